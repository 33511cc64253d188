import PyProof.Rows.All
import Wide.All
import OpenK.AllK
import Wide.FinOn
import KE.KOpsOwn
import HandS.ForMost
import HandS.More
import HandS.OwnEq
import HandS.SetFor
import HandS.Strs
import HandS.Defaults
import HandS.MakeKw
import HandS.DictComp
import HandS.IsInst
import HandS.SortInts
import HandS.Conv
import HandS.Wide
import HandS.Walk
import HandS.Style
import HandS.Flow
import HandS.EndBits
import HandS.Evl
import PyProof.ReprReads
import PyProof.ReprRoads
import HandS.Exc
import HandS.ExcOwn
import HandS.ExcInit
import HandS.ExcField
import HandS.ExcIs
import HandS.WordsExc
import KE.KExcIs
import HandS.Text
import HandS.Dict
import HandS.ClsMeth
import HandS.TupAny
import HandS.RaiseOp
import HandS.SortRule
import KE.LtSeq
import KE.KSortAsk
import KE.KCallOwn
import HandS.RaiseMore
import HandS.FStr
import PyProof.ListStr
import PyProof.Rows.StrFirst
import HandS.GenList
import PyProof.ForAny
import HandS.Iter
import KE.KEqDict
import KE.KDictKeyed
import PySem.Challenge.RW_nestedwrites_k71_goals_read_and_written
set_option Elab.async false
set_option linter.all false
set_option maxRecDepth 100000
set_option maxHeartbeats 4000000
namespace L2.G42
open PySem PySem.Spec PyProof.Rows
section
variable {X : Cx} {CX : CXT} {n : Nat} {C f : Addr} {fd : FuncData} {ps : List Str} {sp : Sp} {E : XK}
/-- an own method of two operands, by its promise -/
def rOwn2 (C : Addr) (sp : Sp) (E : XK) : R2 := fun x y H Q => ∃ a dx fs, x = .ref a ∧ H a = some (.ins C dx fs) ∧ sp [x, y] H Q E
theorem own_call {pins : List (Addr × Obj)} {s : Shared} {σ : St} {H : Hp} {x y : V} {u v : Value} {Q : VK} (F : FnOk X.prog X.w X.K X.mg X.base CX n f fd ps sp) (hb : Binds X.K fd ps []) (hr : Room n X.A) (hx : Passes CX X E)
    (I : Inv X pins σ H s) (rx : RelV x u) (ry : RelV y v) (hsp : sp [x, y] H Q E) :
    wpAny (model X.prog X.w) X.A (call (.ref f) [u, v]) (PySem.W.CmpBack (EP X pins σ Q)) X.xe s := by
  have hl := F.len _ _ _ _ hsp
  have r2 : Vals [x, y] [u, v] := .cons rx (.cons ry .nil)
  refine wpAny_call (codeAny_mono (F.run X.A X.stack s H ⟨[u, v], []⟩ [u, v] [x, y] _ E hr I.env0 (by
    have := hb s [u, v] I.kIn (by simpa using hl)
    simpa using this) r2 hsp) fun r s' hq => ?_)
  cases r with
  | error e => exact hx pins σ H s e s' I hq
  | ok fl =>
    cases fl with
    | ret w =>
      obtain ⟨z, H', I', rz, q⟩ := I.after hq
      have hz : EP X pins σ Q w s' := ⟨z, H', I', rz, q⟩
      cases z with
      | non => cases rz; exact hz
      | bl b => cases rz; exact hz
      | int i => obtain ⟨t, rfl⟩ := rz; exact hz
      | str i => obtain ⟨t, rfl⟩ := rz; exact hz
      | byt i => obtain ⟨t, rfl⟩ := rz; exact hz
      | flt i => obtain ⟨t, rfl⟩ := rz; exact hz
      | ref a => cases rz; exact hz
      | ty a => cases rz; exact hz
    | next => exact False.elim hq
    | brk => exact False.elim hq
    | cont => exact False.elim hq
theorem op_own {op : Operator} (F : FnOk X.prog X.w X.K X.mg X.base CX n f fd ps sp) (hs : PySem.W.findIn X.K (.ref C) (PySem.dunder op.info.2) = some (some (.ref f))) (hf : PySem.W.isFn X.K (.ref f) = true) (hc : PySem.W.selfFirst X.K C = true)
    (hb : Binds X.K fd ps []) (hr : Room n X.A) (hx : Passes CX X E) : OpR X (binaryOp op) (fun x y H Q => (∃ b dy gs, y = .ref b ∧ H b = some (.ins C dy gs)) ∧ rOwn2 C sp E x y H Q) := by
  intro pins s σ H x y u v Q I rx ry h
  obtain ⟨⟨b, dy, gs, rfl, hb'⟩, a, dx, fs, rfl, ha, hsp⟩ := h
  have rx' := rx
  have ry' := ry
  cases rx
  cases ry
  obtain ⟨mA, J, _⟩ := ins_get I.hok ha
  obtain ⟨mB, J', _⟩ := ins_get I.hok hb'
  obtain ⟨od, J, _⟩ := J.look
  obtain ⟨od', J', _⟩ := J'.look
  obtain ⟨m, hF⟩ := I.fr
  exact PySem.W.binop_K hF I.ok.mod.kin J J'.type hc hs hf (own_call F hb hr hx I rx' ry' hsp)
theorem iop_own {op : Operator} (F : FnOk X.prog X.w X.K X.mg X.base CX n f fd ps sp) (hs : PySem.W.findIn X.K (.ref C) (dunderI op.info.2) = some (some (.ref f))) (hf : PySem.W.isFn X.K (.ref f) = true) (hc : PySem.W.selfFirst X.K C = true)
    (hb : Binds X.K fd ps []) (hr : Room n X.A) (hx : Passes CX X E) : OpR X (inplaceOp op) (rOwn2 C sp E) := by
  intro pins s σ H x y u v Q I rx ry h
  obtain ⟨a, dx, fs, rfl, ha, hsp⟩ := h
  have rx' := rx
  cases rx
  obtain ⟨mA, J, _⟩ := ins_get I.hok ha
  obtain ⟨od, J, _⟩ := J.look
  obtain ⟨m, hF⟩ := I.fr
  exact PySem.W.ksp_inplace hF I.ok.mod.kin J hc hs hf (own_call F hb hr hx I rx' ry hsp)
end
end L2.G42

set_option Elab.async false
set_option linter.all false
set_option maxRecDepth 100000
set_option maxHeartbeats 4000000
namespace L2.G42
open PySem PySem.Spec PyProof.Rows
section
variable {M : Model} {prog : Program} {w : World} {A : Around} {E : Value → Shared → Prop} {s : Shared} {K : PySem.W.Frag} {x y C D : Addr} {ox oy : Obj} {od oe : Option Obj}
theorem inst_notup (I : PySem.W.InstAt s.heap x ox C od) : ox.cls ≠ .type "tuple" := by
  rw [I.cls]
  intro e
  cases e
/-- no == of its own -/
structure Plain (K : PySem.W.Frag) (C : Addr) : Prop where
  eq : PySem.W.findIn K (.ref C) "__eq__" = some (some (.builtin "object.__eq__"))
  ne : PySem.W.findIn K (.ref C) "__ne__" = some (some (.builtin "object.__ne__"))
  ob : PySem.W.mroIn K C (.type "object") = some true
theorem id_call_same {Q : Value → Shared → Prop} (X : K.In s.heap) (I : PySem.W.InstAt s.heap x ox C od) (P : Plain K C) (hq : Q (.bool true) s) :
    wpAny (model prog w) A (call (.builtin "object.__eq__") [.ref x, .ref x]) Q E s :=
  wpAny_call (codeAny_call_builtin F.cmp_object.eq.plain F.cmpEntry_eq (PySem.W.check_slot F.cmpKind_eq F.cmpSplit_eq (I.type.andThen (PySem.W.looks_mroIn X P.ob)) (F.cmpArgs_eq _ _) (objEq_entry_same hq)))
theorem id_call_other {Q : Value → Shared → Prop} (X : K.In s.heap) (I : PySem.W.InstAt s.heap x ox C od) (P : Plain K C) (hy : s.heap.get? y = some oy) (hxy : x ≠ y) (hq : Q .notImplemented s) :
    wpAny (model prog w) A (call (.builtin "object.__eq__") [.ref x, .ref y]) Q E s :=
  wpAny_call (codeAny_call_builtin F.cmp_object.eq.plain F.cmpEntry_eq (PySem.W.check_slot F.cmpKind_eq F.cmpSplit_eq (I.type.andThen (PySem.W.looks_mroIn X P.ob)) (F.cmpArgs_eq _ _) (objEq_entry_other hxy I.at_ hy (inst_notup I) hq)))
theorem ifBound_b {name : Str} {id : String} {args : List Value} {Q : Option Value → Shared → Prop} (S : Slot "object" name id) (X : K.In s.heap) (I : PySem.W.InstAt s.heap x ox C od) (hs : PySem.W.findIn K (.ref C) name = some (some (.builtin id)))
    (h : wpAny M A (call (.builtin id) (.ref x :: args)) (fun v => Q (some v)) E s) : wpAny M A (callSpecialIfBound? (.ref x) name args) Q E s := by
  simp only [callSpecialIfBound?, bindSpecialIfBound?]
  refine wpAny_holding (wpAny_bind (wpAny_bind (wpAny_bind (I.type.here ((PySem.W.looks_findIn X hs).here ?_)))))
  refine wpAny_bind (wpAny_askSetting (wpAny_ite ?_))
  have fin : wpAny M A (call (.builtin id) ([.ref x] ++ args) >>= fun v => pure (some v)) Q E s := wpAny_bind (wpAny_mono h (fun v s' h' => wpAny_pure h') fun _ _ h' => h')
  split
  · exact wpAny_bind (wpAny_of_eq (S.bind _) (wpAny_pure (by exact fin)))
  · exact wpAny_tryCatch (wpAny_bind (wpAny_of_eq (S.bind _) (wpAny_pure (by exact fin))))
theorem sp_same {Q : Option Value → Shared → Prop} (X : K.In s.heap) (I : PySem.W.InstAt s.heap x ox C od) (P : Plain K C) (hq : Q (some (.bool true)) s) :
    wpAny (model prog w) A (callSpecialIfBound? (.ref x) "__eq__" [.ref x]) Q E s := ifBound_b F.cmp_object.eq X I P.eq (id_call_same X I P hq)
theorem sp_other {Q : Option Value → Shared → Prop} (X : K.In s.heap) (I : PySem.W.InstAt s.heap x ox C od) (P : Plain K C) (hy : s.heap.get? y = some oy) (hxy : x ≠ y) (hq : Q (some .notImplemented) s) :
    wpAny (model prog w) A (callSpecialIfBound? (.ref x) "__eq__" [.ref y]) Q E s := ifBound_b F.cmp_object.eq X I P.eq (id_call_other X I P hy hxy hq)
theorem try_same {Q : Option Value → Shared → Prop} (X : K.In s.heap) (I : PySem.W.InstAt s.heap x ox C od) (P : Plain K C) (hq : Q (some (.bool true)) s) :
    wpAny (model prog w) A (tryCompare (.ref x) "__eq__" (.ref x)) Q E s := by
  simp only [tryCompare]
  exact wpAny_bind (sp_same X I P (wpAny_pure hq))
theorem try_other {Q : Option Value → Shared → Prop} (X : K.In s.heap) (I : PySem.W.InstAt s.heap x ox C od) (P : Plain K C) (hy : s.heap.get? y = some oy) (hxy : x ≠ y) (hq : Q none s) :
    wpAny (model prog w) A (tryCompare (.ref x) "__eq__" (.ref y)) Q E s := by
  simp only [tryCompare]
  exact wpAny_bind (sp_other X I P hy hxy (wpAny_pure hq))
theorem ne_entry_same (X : K.In s.heap) (I : PySem.W.InstAt s.heap x ox C od) (P : Plain K C) (hu : A.units < cLine) {Q : Fin → Shared → Prop} (hq : Q (.done (.ret (.bool false))) s) :
    wpAny (model prog w) A (Builtin.«object.__ne__» ⟨[.ref x, .ref x], []⟩) Q E s := by
  unfold Builtin.«object.__ne__»
  obtain ⟨h, g, d, t, os⟩ := s
  repeat (first | with_reducible refine wpAny_cRoomFor hu ?_ | with_reducible refine sp_same X I P ?_ | wp_step)
  exact hq
theorem ne_entry_other (X : K.In s.heap) (I : PySem.W.InstAt s.heap x ox C od) (P : Plain K C) (hy : s.heap.get? y = some oy) (hxy : x ≠ y) (hu : A.units < cLine) {Q : Fin → Shared → Prop} (hq : Q (.done (.ret .notImplemented)) s) :
    wpAny (model prog w) A (Builtin.«object.__ne__» ⟨[.ref x, .ref y], []⟩) Q E s := by
  unfold Builtin.«object.__ne__»
  obtain ⟨h, g, d, t, os⟩ := s
  repeat (first | with_reducible refine wpAny_cRoomFor hu ?_ | with_reducible refine sp_other X I P hy hxy ?_ | wp_step)
  exact hq
theorem tryn_same {Q : Option Value → Shared → Prop} (X : K.In s.heap) (I : PySem.W.InstAt s.heap x ox C od) (P : Plain K C) (hu : A.units + 1 < cLine) (hq : Q (some (.bool false)) s) :
    wpAny (model prog w) A (tryCompare (.ref x) "__ne__" (.ref x)) Q E s := by
  simp only [tryCompare]
  refine wpAny_bind (ifBound_b F.cmp_object.ne X I P.ne (wpAny_call (codeAny_call_builtin F.cmp_object.ne.plain F.cmpEntry_ne (PySem.W.check_slot F.cmpKind_ne F.cmpSplit_ne (I.type.andThen (PySem.W.looks_mroIn X P.ob)) (F.cmpArgs_ne _ _) (ne_entry_same (A := A.in1) X I P hu ?_)))))
  exact wpAny_pure hq
theorem tryn_other {Q : Option Value → Shared → Prop} (X : K.In s.heap) (I : PySem.W.InstAt s.heap x ox C od) (P : Plain K C) (hy : s.heap.get? y = some oy) (hxy : x ≠ y) (hu : A.units + 1 < cLine) (hq : Q none s) :
    wpAny (model prog w) A (tryCompare (.ref x) "__ne__" (.ref y)) Q E s := by
  simp only [tryCompare]
  refine wpAny_bind (ifBound_b F.cmp_object.ne X I P.ne (wpAny_call (codeAny_call_builtin F.cmp_object.ne.plain F.cmpEntry_ne (PySem.W.check_slot F.cmpKind_ne F.cmpSplit_ne (I.type.andThen (PySem.W.looks_mroIn X P.ob)) (F.cmpArgs_ne _ _) (ne_entry_other (A := A.in1) X I P hy hxy hu ?_)))))
  exact wpAny_pure hq
/-- neither type is first -/
theorem first_no {α : Type} {ta tb : Value} {k : Bool → Sem α} {Q : α → Shared → Prop} (X : K.In s.heap) (hn : ta = tb ∨ PySem.W.subIn K tb ta = some false) (hq : wpAny M A (k false) Q E s) :
    wpAny M A (if ta != tb then isSubtype tb ta >>= k else pure false >>= k) Q E s := by
  by_cases h : ta = tb
  · subst h
    rw [if_neg (by simp)]
    exact wpAny_bind (wpAny_pure hq)
  · rw [if_pos (by simp [h])]
    rcases hn with e | e
    · exact absurd e h
    · exact wpAny_bind ((PySem.W.looks_subIn X e).here hq)
theorem rc_eq_same {Q : Value → Shared → Prop} (X : K.In s.heap) (I : PySem.W.InstAt s.heap x ox C od) (P : Plain K C) (hu : A.units < cLine) (hq : Q (.bool true) s) :
    wpAny (model prog w) A (richCompare .Eq (.ref x) (.ref x)) Q E s := by
  simp only [richCompare, cmpInfo_Eq, oneThing_ref]
  refine wpAny_holding (wpAny_bind (wpAny_cRoomFor hu ?_))
  refine wpAny_bind (I.type.here (wpAny_bind (I.type.here (first_no X (.inl rfl) ?_))))
  simp only [Bool.false_eq_true, if_false, Bool.not_false, if_true]
  exact wpAny_bind (try_same X I P (wpAny_pure hq))
theorem rc_ne_same {Q : Value → Shared → Prop} (X : K.In s.heap) (I : PySem.W.InstAt s.heap x ox C od) (P : Plain K C) (hu : A.units + 1 < cLine) (hq : Q (.bool false) s) :
    wpAny (model prog w) A (richCompare .NotEq (.ref x) (.ref x)) Q E s := by
  simp only [richCompare, cmpInfo_NotEq, oneThing_ref]
  refine wpAny_holding (wpAny_bind (wpAny_cRoomFor (Nat.lt_of_succ_lt hu) ?_))
  refine wpAny_bind (I.type.here (wpAny_bind (I.type.here (first_no X (.inl rfl) ?_))))
  simp only [Bool.false_eq_true, if_false, Bool.not_false, if_true]
  exact wpAny_bind (tryn_same X I P hu (wpAny_pure hq))
/-- the other one says nothing -/
theorem rc_eq_other {tb : Value} {Q : Value → Shared → Prop} (X : K.In s.heap) (I : PySem.W.InstAt s.heap x ox C od) (P : Plain K C) (hy : s.heap.get? y = some oy) (hxy : x ≠ y) (hT : PySem.W.Looks (model prog w) s.heap (typeOf (.ref y)) tb)
    (hn : (.ref C) = tb ∨ PySem.W.subIn K tb (.ref C) = some false) (back : ∀ Q' : Option Value → Shared → Prop, Q' none s → wpAny (model prog w) A (tryCompare (.ref y) "__eq__" (.ref x)) Q' E s) (hu : A.units < cLine) (hq : Q (.bool false) s) :
    wpAny (model prog w) A (richCompare .Eq (.ref x) (.ref y)) Q E s := by
  simp only [richCompare, cmpInfo_Eq, oneThing_ref]
  refine wpAny_holding (wpAny_bind (wpAny_cRoomFor hu ?_))
  refine wpAny_bind (I.type.here (wpAny_bind (hT.here (first_no X hn ?_))))
  simp only [Bool.false_eq_true, if_false, Bool.not_false, if_true]
  refine wpAny_bind (try_other X I P hy hxy ?_)
  refine wpAny_bind (back _ ?_)
  exact wpAny_bind (wpAny_rule (wpAny_bind (wpAny_isSame_ref_other hxy I.at_ hy (inst_notup I) (wpAny_pure hq))))
theorem rc_ne_other {tb : Value} {Q : Value → Shared → Prop} (X : K.In s.heap) (I : PySem.W.InstAt s.heap x ox C od) (P : Plain K C) (hy : s.heap.get? y = some oy) (hxy : x ≠ y) (hT : PySem.W.Looks (model prog w) s.heap (typeOf (.ref y)) tb)
    (hn : (.ref C) = tb ∨ PySem.W.subIn K tb (.ref C) = some false) (back : ∀ Q' : Option Value → Shared → Prop, Q' none s → wpAny (model prog w) A (tryCompare (.ref y) "__ne__" (.ref x)) Q' E s) (hu : A.units + 1 < cLine) (hq : Q (.bool true) s) :
    wpAny (model prog w) A (richCompare .NotEq (.ref x) (.ref y)) Q E s := by
  simp only [richCompare, cmpInfo_NotEq, oneThing_ref]
  refine wpAny_holding (wpAny_bind (wpAny_cRoomFor (Nat.lt_of_succ_lt hu) ?_))
  refine wpAny_bind (I.type.here (wpAny_bind (hT.here (first_no X hn ?_))))
  simp only [Bool.false_eq_true, if_false, Bool.not_false, if_true]
  refine wpAny_bind (tryn_other X I P hy hxy hu ?_)
  refine wpAny_bind (back _ ?_)
  exact wpAny_bind (wpAny_rule (wpAny_bind (wpAny_isSame_ref_other hxy I.at_ hy (inst_notup I) (wpAny_pure hq))))
/-- a list says nothing of what is no list -/
theorem list_back {its : Array Value} {n : Nat} {Q : Option Value → Shared → Prop} (X : K.In s.heap) (I : PySem.W.InstAt s.heap x ox C od) (hm : PySem.W.mroIn K C (.type "list") = some false)
    (hy : s.heap.get? y = some { cls := .type "list", data := .seq its n }) (hq : Q none s) : wpAny (model prog w) A (tryCompare (.ref y) "__eq__" (.ref x)) Q E s := by
  refine wpAny_tryCompare_declines ⟨_, hy, rfl⟩ F.slot_list_eq (GQ.call_here F.slot_list_eq ⟨_, hy, rfl⟩ F.entry_list_eq (F.args_list_eq_2 _ _) ?_)
  have hi : PySem.W.Looks (model prog w) s.heap (isInstance (.ref x) (.type "list")) false := I.type.andThen (PySem.W.looks_mroIn X hm)
  unfold Builtin.«list.__eq__»
  show wpAny (model prog w) A.in1 (isInstance (.ref x) (.type "list") >>= _) _ _ s
  refine wpAny_bind (hi.here ?_)
  simp only [Bool.not_false, if_true]
  exact wpAny_pure ⟨rfl, hq⟩
end
section
variable {X : Cx} {C : Addr}
/-- == of two instances without an == of their own -/
def rEqI (C : Addr) : R2 := fun x y H Q => ∃ a b dx dy fs gs, x = .ref a ∧ y = .ref b ∧ H a = some (.ins C dx fs) ∧ H b = some (.ins C dy gs) ∧ Q (.bl (decide (a = b))) H
def rNeI (C : Addr) : R2 := fun x y H Q => ∃ a b dx dy fs gs, x = .ref a ∧ y = .ref b ∧ H a = some (.ins C dx fs) ∧ H b = some (.ins C dy gs) ∧ Q (.bl (!decide (a = b))) H
theorem op_eqI (P : Plain X.K C) (hu : X.A.units < cLine) : OpR X (compareOp .Eq) (rEqI C) := by
  intro pins s σ H x y u v Q I rx ry h
  obtain ⟨a, b, dx, dy, fs, gs, rfl, rfl, ha, hb, q⟩ := h
  cases rx
  cases ry
  obtain ⟨mA, J, _⟩ := ins_get I.hok ha
  obtain ⟨mB, J', _⟩ := ins_get I.hok hb
  obtain ⟨od, J, _⟩ := J.look
  obtain ⟨od', J', _⟩ := J'.look
  by_cases e : a = b
  · subst e
    exact rc_eq_same I.kIn J P hu ⟨.bl true, H, I, rfl, by simpa using q⟩
  · exact rc_eq_other I.kIn J P J'.at_ e J'.type (.inl rfl) (fun Q' q' => try_other I.kIn J' P J.at_ (Ne.symm e) q') hu ⟨.bl false, H, I, rfl, by simpa [e] using q⟩
theorem op_neI (P : Plain X.K C) (hu : X.A.units + 1 < cLine) : OpR X (compareOp .NotEq) (rNeI C) := by
  intro pins s σ H x y u v Q I rx ry h
  obtain ⟨a, b, dx, dy, fs, gs, rfl, rfl, ha, hb, q⟩ := h
  cases rx
  cases ry
  obtain ⟨mA, J, _⟩ := ins_get I.hok ha
  obtain ⟨mB, J', _⟩ := ins_get I.hok hb
  obtain ⟨od, J, _⟩ := J.look
  obtain ⟨od', J', _⟩ := J'.look
  by_cases e : a = b
  · subst e
    exact rc_ne_same I.kIn J P hu ⟨.bl false, H, I, rfl, by simpa using q⟩
  · exact rc_ne_other I.kIn J P J'.at_ e J'.type (.inl rfl) (fun Q' q' => tryn_other I.kIn J' P J.at_ (Ne.symm e) hu q') hu ⟨.bl true, H, I, rfl, by simpa [e] using q⟩
/-- == of such an instance and a list -/
def rEqIL (C : Addr) : R2 := fun x y H Q => ∃ a b dx fs ys, x = .ref a ∧ y = .ref b ∧ H a = some (.ins C dx fs) ∧ H b = some (.lst ys) ∧ Q (.bl false) H
theorem op_eqIL (P : Plain X.K C) (hs : PySem.W.subIn X.K (.type "list") (.ref C) = some false) (hm : PySem.W.mroIn X.K C (.type "list") = some false) (hu : X.A.units < cLine) : OpR X (compareOp .Eq) (rEqIL C) := by
  intro pins s σ H x y u v Q I rx ry h
  obtain ⟨a, b, dx, fs, ys, rfl, rfl, ha, hb, q⟩ := h
  cases rx
  cases ry
  obtain ⟨mA, J, _⟩ := ins_get I.hok ha
  obtain ⟨od, J, _⟩ := J.look
  obtain ⟨z, its, n, r, e⟩ := I.hok b _ hb
  have hab : a ≠ b := ne_of ha hb (by intro z; cases z)
  exact rc_eq_other I.kIn J P e hab ((PySem.W.Looks.ld e).andThen .now) (.inr hs) (fun Q' q' => list_back I.kIn J hm e q') hu ⟨.bl false, H, I, rfl, q⟩
end
end L2.G42

set_option Elab.async false
set_option linter.all false
set_option maxRecDepth 100000
set_option maxHeartbeats 4000000
namespace L2.G42
open PySem PySem.Spec PyProof.Rows
section
variable {P : Program} {w : World} {A : Around} {E : Value → Shared → Prop} {s : Shared}
/-- an empty set's object -/
abbrev eS (w : World) : Obj := { cls := .type "set", dict := none, data := .set #[] 0 (.fresh 0 0 (!w.params.followText "set-order")) }
/-- set.__init__ of the new set over a list of ints -/
theorem set_init_list {l : Addr} {its : Array Value} (ns : List Int) {R : Result → Shared → Prop} (hh : A.handled = none) (hl : s.heap.IsList l its) (hi : IntsAre its.toList ns) (few : ns.length + 1 < scanBound)
    (fin : ∀ (h' : Heap) (tk c : Nat), SetR w h' s.heap.objs.size (fun j => decide (j ∈ ns)) c → c ≤ ns.length → (∀ b o, s.heap.get? b = some o → h'.get? b = some o) → R (.ok (.ret .none)) { s with heap := h', toks := tk }) :
    wpAny (model P w) A.in1.in1 (Builtin.«set.__init__» ⟨[.ref s.heap.objs.size, .ref l], []⟩) (fun f s' => match f with | .done f => R (.ok f) s' | .again c' => c'.quiet = true ∧ codeAny (model P w) A.in1 c' R s') (fun e s' => R (.error e) s') { s with heap := s.heap.push (eS w) } := by
  have hz : its.size = ns.length := by
    have q := IntsAre.length hi
    rwa [Array.length_toList] at q
  obtain ⟨ob, hob, hcl, nl, hdl⟩ := hl
  obtain ⟨_, odict, _, osl⟩ := ob
  simp only at hcl hdl
  subst hcl; subst hdl
  have lts : l < s.heap.objs.size := Heap.lt_size hob
  have gS : (s.heap.push (eS w)).get? s.heap.objs.size = some (eS w) := Heap.get?_push_size _ rfl
  have gl : (s.heap.push (eS w)).get? l = some { cls := .type "list", dict := odict, data := .seq its nl, slots := osl } := Heap.get?_push_of_some _ hob
  have il : (s.heap.push (eS w)).IsList l its := ⟨_, gl, rfl, nl, rfl⟩
  have k1 := PySem.F.sub_list_set
  have k2 := PySem.F.sub_list_frozenset
  have k3 : (Value.type "list" == Value.type "dict") = false := by decide
  unfold Builtin.«set.__init__» noKeywords Builtin.Frozenset.updateFrom
  generalize hPI : pyIter = PI
  wp_walk
  subst hPI
  refine wpAny_pyIter_list il (wpAny_bind (wpAny_runValue ?_))
  have n1 : l ≠ (s.heap.push (eS w)).objs.size := by rw [Heap.size_push]; exact Nat.ne_of_lt (Nat.lt_succ_of_lt lts)
  have n2 : s.heap.objs.size ∉ [(s.heap.push (eS w)).objs.size, l] := by
    rw [Heap.size_push]
    simp only [List.mem_cons, List.mem_singleton, List.not_mem_nil, or_false, not_or]
    exact ⟨Nat.ne_of_lt (Nat.lt_succ_self _), Nat.ne_of_gt lts⟩
  refine set_update_ints ((Walks.list (A := A.in1.in1.in1) (by simp [hh]) _ l n1 its).toS) s.heap.objs.size n2 ns hz few (fun i v hv => ?_) its.size 0 _ rfl (Nat.zero_le _) ⟨⟨_, Heap.get?_push_size _ rfl, rfl, rfl⟩, il.push _⟩ ⟨0, Nat.le_refl 0, setR_new_at (Heap.get?_push_of_some _ gS)⟩ fun s' c hm hc hS => ?_
  · have lt : i < ns.length := hz ▸ (Array.getElem?_eq_some_iff.mp hv).1
    obtain ⟨t, e⟩ := PyProof.Rows.IntsAre.int_at hi i v (by rw [Array.getElem?_toList]; exact hv)
    exact ⟨ns[i], t, List.getElem?_eq_getElem lt, by rw [e, List.getD_eq_getElem?_getD, List.getElem?_eq_getElem lt]; rfl⟩
  · obtain ⟨h', _, _, tk, _⟩ := s'
    obtain rfl := hm.gens
    obtain rfl := hm.drawn
    obtain rfl := hm.os
    refine wpAny_pure (wpAny_pure (fin h' tk c hS (hz ▸ hc) fun b o e => ?_))
    have lb : b < s.heap.objs.size := Heap.lt_size e
    refine hm.heap b o ?_ (Heap.get?_push_of_some _ (Heap.get?_push_of_some _ e))
    rw [Heap.size_push]
    simp only [List.mem_cons, List.mem_singleton, List.not_mem_nil, or_false, not_or]
    exact ⟨Nat.ne_of_lt lb, Nat.ne_of_lt (Nat.lt_succ_of_lt lb)⟩
/-- how the init ends -/
def InitR (w : World) (s : Shared) (ns : List Int) : Result → Shared → Prop := fun r s₂ => r = .ok (.ret .none) ∧ ∃ h' tk c, s₂ = { s with heap := h', toks := tk } ∧ SetR w h' s.heap.objs.size (fun j => decide (j ∈ ns)) c ∧ c ≤ ns.length ∧ ∀ b o, s.heap.get? b = some o → h'.get? b = some o
/-- set(l), l a list of ints -/
theorem set_of_list {l : Addr} {its : Array Value} (ns : List Int) {Q : Value → Shared → Prop} (hh : A.handled = none) (hl : s.heap.IsList l its) (hi : IntsAre its.toList ns) (few : ns.length + 1 < scanBound)
    (fin : ∀ (h' : Heap) (tk c : Nat), SetR w h' s.heap.objs.size (fun j => decide (j ∈ ns)) c → c ≤ ns.length → (∀ b o, s.heap.get? b = some o → h'.get? b = some o) → Q (.ref s.heap.objs.size) { s with heap := h', toks := tk }) :
    wpAny (model P w) A (call (.type "set") [.ref l]) Q E s := by
  obtain ⟨_, _, e0⟩ := PySem.F.called_set.mro
  have e1 := PySem.F.called_set.made
  have e2 := PySem.F.called_set.sub
  have e3 := PySem.F.called_set.notType
  have e4 := PySem.F.called_set.canCreate
  have e5 := PySem.F.typeCall_set_1 (.ref l)
  refine wpAny_call (codeAny_of_tree ?_)
  show wpAny _ _ (callAny (.type "set") _) _ _ _
  refine wpAny_pure ⟨Code.quiet_builtin _ (by decide +kernel), codeAny_builtin PySem.F.entry_type_call ?_⟩
  rw [Around.under_plain (weight_type_call_type "set" [.ref l] []) rfl]
  repeat (any_goals (first | assumption | wp_step))
  refine codeAny_mono (code_set_led1 (.ref l) (E := E) (Q₁ := fun v s₁ => v = .ref s.heap.objs.size ∧ s₁ = { s with heap := s.heap.push (eS w) }) ⟨rfl, rfl⟩) fun r s₁ hr => ?_
  match r, hr with
  | .error _, hr => exact hr
  | .ok .next, hr => exact hr.elim
  | .ok .brk, hr => exact hr.elim
  | .ok .cont, hr => exact hr.elim
  | .ok (.ret v), hr =>
    obtain ⟨rfl, rfl⟩ := hr
    have gS : (s.heap.push (eS w)).get? s.heap.objs.size = some (eS w) := Heap.get?_push_size _ rfl
    have tS : Shared.TypeIs { s with heap := s.heap.push (eS w) } (.ref s.heap.objs.size) "set" := ⟨_, gS, rfl⟩
    have e6 := PySem.F.called_set.init.lookup
    have e7 := PySem.F.called_set.init.bind (.ref s.heap.objs.size)
    repeat (any_goals (first | assumption | wp_step))
    refine codeAny_mono (codeAny_call_builtin (R := InitR w s ns)
      PySem.F.called_set.init.plain PySem.F.entry_set_init (check_set_init_1 tS (set_init_list (P := P) (w := w) (A := A) (R := InitR w s ns) ns hh hl hi few fun h' tk c a b d => ⟨rfl, h', tk, c, rfl, a, b, d⟩))) fun r₂ s₂ hr₂ => ?_
    obtain ⟨rfl, h', tk, c, rfl, a, b, d⟩ := hr₂
    repeat (any_goals (first | assumption | wp_step))
    exact fin h' tk c a b d
end
section
variable {X : Cx}
/-- set(xs), xs a list of ints -/
def rSetL (K : PySem.W.Frag) (w : World) : List V → Hp → VK → Prop := fun xs H Q => ∃ (l : Addr) (ns : List Int), xs = [.ref l] ∧ SqL K H l (ns.map V.int) ∧ ns.length ≤ 1000 ∧
  ∀ p c, H p = none → c ≤ ns.length → Q (.ref p) (upd H p (SetO w p (fun j => decide (j ∈ ns)) c))
theorem cr_setL (hc : X.calm = true) : CallR X (.type "set") (rSetL X.K X.w) := by
  intro pins s σ H xs us Q I r h
  obtain ⟨l, ns, rfl, hl, few, q⟩ := h
  rw [Vals.ref1 r]
  obtain ⟨its, r1, e1, z1⟩ := I.list hl
  refine set_of_list ns (I.ok.hd hc) e1.isList (intsAre_of r1) (Nat.lt_of_le_of_lt (Nat.add_le_add_right few 1) (by decide)) fun h' tk c a b d => ?_
  have hp : H s.heap.objs.size = none := I.hok.fresh (Nat.le_refl _)
  exact ⟨.ref _, upd H s.heap.objs.size (SetO X.w s.heap.objs.size (fun j => decide (j ∈ ns)) c), I.laid d (Nat.le_refl _) (setO_new a), rfl, q _ c hp b⟩
end
end L2.G42

set_option Elab.async false
set_option linter.all false
set_option maxRecDepth 100000
set_option maxHeartbeats 4000000
namespace L2.G42
open PySem PySem.Spec PyProof.Rows
/-- a test that holds -/
theorem goT {p : Prop} [Decidable p] (h : p) {Q : VK} {H : Hp} (k : Q (.bl true) H) : Q (.bl (decide p)) H := by
  rw [decide_eq_true h]
  exact k
theorem goF {p : Prop} [Decidable p] (h : ¬ p) {Q : VK} {H : Hp} (k : Q (.bl false) H) : Q (.bl (decide p)) H := by
  rw [decide_eq_false h]
  exact k
/-- a dict comprehension over a walk: the new dict at D -/
theorem dc_it {J : It} {n : Nat} {G : Hp → Prop} {Y : Nat → Hp → V → Hp → Prop} (w : Walk J n G Y) {g : TG} {tt : TT} {tk tv : TE} {vs : List Nat} {σ : St} {H1 : Hp} {D : Addr} {Qd : Hp → Prop} (Pv : Nat → Hp → Prop) (h0 : Pv 0 (upd H1 D (.dK []))) (hG : ∀ i H, i ≤ n → Pv i H → G H)
    (hs : ∀ i x H H', i < n → Pv i H → Y i H x H' → g x (wipe σ vs) H' fun σ2 H2 => wipe σ2 vs = wipe σ vs ∧ tt σ2 H2 fun b H3 =>
      if b = true then tk σ2 H3 fun y H4 => tv σ2 H4 fun z H5 => ∃ kvs k, y = kV k ∧ H5 D = some (.dK kvs) ∧ kvs.length < sizeLine ∧ Pv (i + 1) (upd H5 D (.dK (putK kvs k z))) else Pv (i + 1) H3) (hd : ∀ H, Pv n H → Qd H) :
    ∃ W : Nat → Nat → Hp → Prop, (∃ m, W 0 m (upd H1 D (.dK []))) ∧ ∀ i m H, W i m H →
      (J.stop i H ∧ Qd H) ∨ (J.go i H ∧ ∃ Nx : Hp → Prop, (∀ H', Nx H' → ∃ m', m' < m ∧ W (i + 1) m' H') ∧ ∀ x H', J.yld i H x H' → g x (wipe σ vs) H' fun σ2 H2 => wipe σ2 vs = wipe σ vs ∧ tt σ2 H2 fun b H3 =>
        if b = true then tk σ2 H3 fun y H4 => tv σ2 H4 fun z H5 => ∃ kvs k, y = kV k ∧ H5 D = some (.dK kvs) ∧ kvs.length < sizeLine ∧ Nx (upd H5 D (.dK (putK kvs k z))) else Nx H3) := by
  refine ⟨fun i m H => m = n - i ∧ i ≤ n ∧ Pv i H, ⟨n, rfl, Nat.zero_le _, h0⟩, ?_⟩
  rintro i m H ⟨rfl, le, p⟩
  have q := hG i H le p
  rcases Nat.lt_or_ge i n with lt | ge
  · exact .inr ⟨w.goes i H lt q, Pv (i + 1), fun H' p' => ⟨n - (i + 1), by omega, rfl, lt, p'⟩, fun x H' y => hs i x H H' lt p (w.yields i H x H' lt q y)⟩
  · obtain rfl : i = n := by omega
    exact .inl ⟨w.stops H q, hd H p⟩
/-! the attributes of a bag -/
theorem in_sh : ¬ (("inside" : Str) = "shared") := by decide +kernel
theorem si_f : (("shared" : Str) == "inside") = false := by decide +kernel
abbrev bfs (u v : V) : List (Str × V) := [(("inside" : Str), u), (("shared" : Str), v)]
theorem bf1 (u : V) : putF "inside" u [] = [(("inside" : Str), u)] := rfl
theorem bf2 (u v : V) : putF "shared" v [(("inside" : Str), u)] = bfs u v := by
  show (if ("inside" : Str) = "shared" then _ else _) = _
  rw [if_neg in_sh]
  all_goals rfl
theorem bfI (u u' v : V) : putF "inside" u' (bfs u v) = bfs u' v := by
  show (if ("inside" : Str) = "inside" then _ else _) = _
  rw [if_pos rfl]
theorem bl_in (u v : V) : List.lookup ("inside" : Str) (bfs u v) = some u := by
  rw [List.lookup_cons]
  simp
theorem bl_sh (u v : V) : List.lookup ("shared" : Str) (bfs u v) = some v := by
  rw [List.lookup_cons, si_f, List.lookup_cons]
  simp
theorem bl_no {m : Str} (u v : V) (h1 : (m == ("inside" : Str)) = false) (h2 : (m == ("shared" : Str)) = false) : List.lookup m (bfs u v) = none := by
  rw [List.lookup_cons, h1, List.lookup_cons, h2]
  rfl
/-! a dict of ints, each with True -/
def kv (ks : List Int) : List (Key × V) := ks.map fun n => ((Sum.inl n : Key), V.bl true)
def ins (ks : List Int) (n : Int) : List Int := if n ∈ ks then ks else ks ++ [n]
def outof (ks : List Int) (n : Int) : List Int := ks.filter fun m => decide (m ≠ n)
theorem kv_len (ks : List Int) : (kv ks).length = ks.length := List.length_map ..
theorem kv_val (n : Int) : ∀ ks : List Int, valV (kv ks) (Sum.inl n : Key) = if n ∈ ks then some (.bl true) else none
  | [] => rfl
  | m :: ks => by
    by_cases e : m = n
    · subst e
      show valV ((Sum.inl m, V.bl true) :: kv ks) _ = _
      rw [valV_pos rfl, if_pos List.mem_cons_self]
    · show valV ((Sum.inl m, V.bl true) :: kv ks) _ = _
      rw [valV_neg (by intro h; exact e (Sum.inl.inj h)), kv_val n ks]
      have : (n ∈ m :: ks) ↔ n ∈ ks := by
        rw [List.mem_cons]
        exact ⟨fun h => h.elim (fun h => absurd h.symm e) id, .inr⟩
      simp only [this]
theorem kv_put (ks : List Int) (n : Int) : putK (kv ks) (Sum.inl n : Key) (.bl true) = kv (ins ks n) := by
  by_cases h : n ∈ ks
  · have e1 : ins ks n = ks := if_pos h
    rw [e1]
    unfold putK
    rw [valV_any, kv_val, if_pos h]
    show (kv ks).map (fun p => if p.1 = Sum.inl n then (p.1, V.bl true) else p) = kv ks
    unfold kv
    rw [List.map_map]
    refine List.map_congr_left fun a _ => ?_
    show (if (Sum.inl a : Key) = Sum.inl n then ((Sum.inl a : Key), V.bl true) else ((Sum.inl a : Key), V.bl true)) = _
    split <;> rfl
  · have e1 : ins ks n = ks ++ [n] := if_neg h
    rw [e1, putK_new _ (by rw [kv_val, if_neg h])]
    unfold kv
    rw [List.map_append]
    rfl
theorem kv_drop (ks : List Int) (n : Int) : dropK (kv ks) (Sum.inl n : Key) = kv (outof ks n) := by
  unfold dropK kv outof
  rw [List.filter_map]
  refine congrArg _ (List.filter_congr fun m _ => ?_)
  show decide ((Sum.inl m : Key) ≠ Sum.inl n) = decide (m ≠ n)
  by_cases e : m = n
  · subst e; simp
  · simp [e]
theorem kv_keys (ks : List Int) : (kv ks).map (fun kv => kV kv.1) = ks.map V.int := by
  unfold kv
  rw [List.map_map]
  rfl
theorem kv_get {ks : List Int} {i : Nat} {k : Key} {v : V} (h : (kv ks)[i]? = some (k, v)) : ∃ n, ks[i]? = some n ∧ k = Sum.inl n := by
  unfold kv at h
  rw [List.getElem?_map] at h
  cases e : ks[i]? with
  | none => rw [e] at h; cases h
  | some n =>
    rw [e] at h
    injection h with h
    injection h with h1 h2
    exact ⟨n, rfl, h1.symm⟩
theorem ins_mem (ks : List Int) (n m : Int) : m ∈ ins ks n ↔ m ∈ ks ∨ m = n := by
  unfold ins
  split
  · rename_i h
    exact ⟨.inl, fun q => q.elim id fun e => e ▸ h⟩
  · simp
theorem ins_nd {ks : List Int} (h : ks.Nodup) (n : Int) : (ins ks n).Nodup := by
  unfold ins
  split
  · exact h
  · rename_i e
    refine List.nodup_append.mpr ⟨h, by simp, fun a ha b hb => ?_⟩
    simp only [List.mem_singleton] at hb
    subst hb
    exact fun q => e (q ▸ ha)
theorem ins_len (ks : List Int) (n : Int) : (ins ks n).length ≤ ks.length + 1 := by
  unfold ins
  split
  · omega
  · simp
theorem outof_mem (ks : List Int) (n m : Int) : m ∈ outof ks n ↔ m ∈ ks ∧ m ≠ n := by
  unfold outof
  simp [List.mem_filter]
theorem outof_nd {ks : List Int} (h : ks.Nodup) (n : Int) : (outof ks n).Nodup := h.filter _
theorem outof_len (ks : List Int) (n : Int) : (outof ks n).length ≤ ks.length := List.length_filter_le _ _
def insAll (ks ns : List Int) : List Int := ns.foldl ins ks
def outAll (ks ns : List Int) : List Int := ns.foldl outof ks
theorem insAll_mem (m : Int) : ∀ (ns ks : List Int), m ∈ insAll ks ns ↔ m ∈ ks ∨ m ∈ ns
  | [], ks => by simp [insAll]
  | n :: ns, ks => by
    show m ∈ insAll (ins ks n) ns ↔ _
    rw [insAll_mem m ns, ins_mem, List.mem_cons, or_assoc]
theorem insAll_nd : ∀ (ns : List Int) {ks : List Int}, ks.Nodup → (insAll ks ns).Nodup
  | [], _, h => h
  | n :: ns, ks, h => insAll_nd ns (ins_nd h n)
theorem insAll_len : ∀ (ns ks : List Int), (insAll ks ns).length ≤ ks.length + ns.length
  | [], ks => by simp [insAll]
  | n :: ns, ks => by
    have a := insAll_len ns (ins ks n)
    have b := ins_len ks n
    show (insAll (ins ks n) ns).length ≤ _
    rw [List.length_cons]
    omega
theorem outAll_mem (m : Int) : ∀ (ns ks : List Int), m ∈ outAll ks ns ↔ m ∈ ks ∧ m ∉ ns
  | [], ks => by simp [outAll]
  | n :: ns, ks => by
    show m ∈ outAll (outof ks n) ns ↔ _
    rw [outAll_mem m ns, outof_mem, List.mem_cons, not_or, and_assoc]
theorem outAll_nd : ∀ (ns : List Int) {ks : List Int}, ks.Nodup → (outAll ks ns).Nodup
  | [], _, h => h
  | n :: ns, ks, h => outAll_nd ns (outof_nd h n)
theorem outAll_len : ∀ (ns ks : List Int), (outAll ks ns).length ≤ ks.length
  | [], ks => by simp [outAll]
  | n :: ns, ks => Nat.le_trans (outAll_len ns _) (outof_len ks n)
theorem insAll_take (ks ns : List Int) {i : Nat} {n : Int} (h : ns[i]? = some n) : insAll ks (ns.take (i + 1)) = ins (insAll ks (ns.take i)) n := by
  unfold insAll
  rw [List.take_add_one, h, List.foldl_append]
  rfl
theorem outAll_take (ks ns : List Int) {i : Nat} {n : Int} (h : ns[i]? = some n) : outAll ks (ns.take (i + 1)) = outof (outAll ks (ns.take i)) n := by
  unfold outAll
  rw [List.take_add_one, h, List.foldl_append]
  rfl
/-- two rising lists with the same members are one -/
theorem rise_one : ∀ {l m : List Int}, l.Pairwise (· < ·) → m.Pairwise (· < ·) → (∀ x, x ∈ l ↔ x ∈ m) → l = m
  | [], [], _, _, _ => rfl
  | [], y :: m, _, _, h => by have := (h y).2 List.mem_cons_self; cases this
  | x :: l, [], _, _, h => by have := (h x).1 List.mem_cons_self; cases this
  | x :: l, y :: m, hl, hm, h => by
    obtain ⟨h1, h2⟩ := List.pairwise_cons.mp hl
    obtain ⟨h3, h4⟩ := List.pairwise_cons.mp hm
    have exy : x = y := by
      rcases List.mem_cons.mp ((h x).1 List.mem_cons_self) with e | e
      · exact e
      · rcases List.mem_cons.mp ((h y).2 List.mem_cons_self) with e' | e'
        · exact e'.symm
        · have a := h3 x e
          have b := h1 y e'
          omega
    subst exy
    refine congrArg _ (rise_one h2 h4 fun z => ⟨fun hz => ?_, fun hz => ?_⟩)
    · rcases List.mem_cons.mp ((h z).1 (List.mem_cons_of_mem _ hz)) with e | e
      · subst e; have := h1 z hz; omega
      · exact e
    · rcases List.mem_cons.mp ((h z).2 (List.mem_cons_of_mem _ hz)) with e | e
      · subst e; have := h3 z hz; omega
      · exact e
theorem le_nd_lt : ∀ {l : List Int}, l.Pairwise (· ≤ ·) → l.Nodup → l.Pairwise (· < ·)
  | [], _, _ => .nil
  | x :: l, h, nd => by
    obtain ⟨h1, h2⟩ := List.pairwise_cons.mp h
    obtain ⟨n1, n2⟩ := List.nodup_cons.mp nd
    refine List.pairwise_cons.mpr ⟨fun y hy => ?_, le_nd_lt h2 n2⟩
    have a := h1 y hy
    have b : x ≠ y := fun e => n1 (e ▸ hy)
    omega
/-- what sorted gives of the keys -/
theorem sorted_is {ks ns' xs : List Int} (hp : ns'.Perm ks) (hs : ns'.Pairwise (· ≤ ·)) (nd : ks.Nodup) (hx : xs.Pairwise (· < ·)) (hm : ∀ x, x ∈ ks ↔ x ∈ xs) : ns' = xs :=
  rise_one (le_nd_lt hs (hp.nodup_iff.mpr nd)) hx fun x => (hp.mem_iff).trans (hm x)
end L2.G42

set_option Elab.async false
set_option linter.all false
set_option maxRecDepth 100000
set_option maxHeartbeats 4000000
namespace L2.G42
open PySem PySem.Spec PyProof.Rows
/-- a def that lets nothing out, as a caller sees it: its name, its promise, the values that fill up -/
structure Cl (P : Program) (w : World) (K : PySem.W.Frag) (mg : Str → Option Value) (base : Heap) (k : Nat) (x : Str) (sp : Sp) (dvs : List V) : Prop where
  ex : ∃ (f : Addr) (fd : FuncData) (ps : List Str) (ds : List Value), FnOk P w K mg base CX0 k f fd ps sp ∧ mg x = some (.ref f) ∧ PySem.W.keepIn K (.ref f) = true ∧ Binds K fd ps ds ∧ Vals dvs ds
/-- a method of the class at C -/
structure Mt (P : Program) (w : World) (K : PySem.W.Frag) (mg : Str → Option Value) (base : Heap) (k : Nat) (C : Addr) (m : Str) (sp : Sp) (dvs : List V) : Prop where
  ex : ∃ (f : Addr) (fd : FuncData) (ps : List Str) (ds : List Value), Cls K C ∧ Meth K C m f ∧ FnOk P w K mg base CX0 k f fd ps sp ∧ Binds K fd ps ds ∧ Vals dvs ds
/-- the class at C, called -/
structure Nw (P : Program) (w : World) (K : PySem.W.Frag) (mg : Str → Option Value) (base : Heap) (k : Nat) (x : Str) (C : Addr) (sp : Sp) (dvs : List V) : Prop where
  ex : ∃ (f : Addr) (fd : FuncData) (ps : List Str) (ds : List Value), Mk K C f ∧ FnOk P w K mg base CX0 k f fd ps sp ∧ mg x = some (.ref C) ∧ Binds K fd ps ds ∧ Vals dvs ds
section
variable {X : Cx} {k j : Nat} {C : Addr} {x m : Str} {sp : Sp} {dvs : List V} {p pos apos : Pos} {e o : Expr} {es : List Expr} {ta : TE} {t : TA}
theorem pe_c (c : Cl X.prog X.w X.K X.mg X.base k x sp dvs) (hr : Room j X.A) (hk : k ≤ j) (hg : Gl X x) (ha : PA X (e :: es) t) (hdb : (x == ("__debug__" : Str)) = false := by decide)
    (he : starEach (e :: es) X.env = (false, eval e X.env) :: starEach es X.env := by rfl) (hpl : (backTo pos (starEach es X.env)).any (·.1) = false := by rfl) : PE X (.Call (.Name x p) (e :: es) [] pos) (tCall sp dvs E0 t) :=
  let ⟨_, _, _, _, F, hm, kp, b, d⟩ := c.ex
  pe_call F (hr.mono hk) hg hm kp b d pass0 ha hdb he hpl
theorem pe_c0 (c : Cl X.prog X.w X.K X.mg X.base k x sp dvs) (hr : Room j X.A) (hk : k ≤ j) (hg : Gl X x) (hdb : (x == ("__debug__" : Str)) = false := by decide) : PE X (.Call (.Name x p) [] [] pos) (tCall sp dvs E0 tNil) :=
  let ⟨_, _, _, _, F, hm, kp, b, d⟩ := c.ex
  pe_call0 F (hr.mono hk) hg hm kp b d pass0 hdb
theorem pe_mk (c : Nw X.prog X.w X.K X.mg X.base k x C sp dvs) (hr : Room j X.A) (hk : k + 1 ≤ j) (hg : Gl X x) (ha : PA X (e :: es) t) (hdb : (x == ("__debug__" : Str)) = false := by decide)
    (he : starEach (e :: es) X.env = (false, eval e X.env) :: starEach es X.env := by rfl) (hpl : (backTo pos (starEach es X.env)).any (·.1) = false := by rfl) : PE X (.Call (.Name x p) (e :: es) [] pos) (tMake C sp dvs E0 t) :=
  let ⟨_, _, _, _, M, F, hm, b, d⟩ := c.ex
  pe_make M F (hr.mono hk) hg hm b d pass0 ha hdb he hpl
theorem pe_mt {pl : Sem Bool} (c : Mt X.prog X.w X.K X.mg X.base k C m sp dvs) (hr : Room j X.A) (hk : k ≤ j) (he : PE X o ta) (ha : PA X (e :: es) t)
    (hst : starEach (e :: es) X.env = (false, eval e X.env) :: starEach es X.env := by rfl) (hpl : (backTo pos (starEach es X.env)).any (·.1) = false := by rfl)
    (ht : eval (.Call (.Attribute o m apos) (e :: es) [] pos) X.env = (eval o X.env >>= fun ov => standAt apos.atName >>= fun _ => holding [ov] (getMethod ov m pl) >>= fun q => callWith pos q.1 q.2 (backTo pos (starEach (e :: es) X.env)) (backToKw pos (keywordEach [] X.env))) := by rfl) :
    PE X (.Call (.Attribute o m apos) (e :: es) [] pos) (tMeth C m sp dvs E0 ta t) :=
  let ⟨_, _, _, _, cl, hm, F, b, d⟩ := c.ex
  pe_meth (pl := pl) he cl hm F (hr.mono hk) b d pass0 ha hst hpl ht
theorem pe_mt0 {pl : Sem Bool} (c : Mt X.prog X.w X.K X.mg X.base k C m sp dvs) (hr : Room j X.A) (hk : k ≤ j) (he : PE X o ta)
    (ht : eval (.Call (.Attribute o m apos) [] [] pos) X.env = (eval o X.env >>= fun ov => standAt apos.atName >>= fun _ => holding [ov] (getMethod ov m pl) >>= fun q => callWith pos q.1 q.2 (backTo pos (starEach [] X.env)) (backToKw pos (keywordEach [] X.env))) := by rfl) :
    PE X (.Call (.Attribute o m apos) [] [] pos) (tMeth C m sp dvs E0 ta tNil) :=
  let ⟨_, _, _, _, cl, hm, F, b, d⟩ := c.ex
  pe_meth0 (pl := pl) he cl hm F (hr.mono hk) b d pass0 ht
end
end L2.G42

set_option Elab.async false
set_option linter.all false
set_option maxRecDepth 100000
set_option maxHeartbeats 4000000
namespace L2.G42
open PySem PySem.Spec PyProof.Rows
/-- a promise that is kept where no repr is under way (repr of lists and tuples asks that) -/
structure FnG (P : Program) (w : World) (K : PySem.W.Frag) (mg : Str → Option Value) (base : Heap) (CX : CXT) (k : Nat) (f : Addr) (fd : FuncData) (ps : List Str) (sp : Sp) : Prop where
  len : ∀ vs H Q E, sp vs H Q E → vs.length = ps.length
  run : ∀ (A : Around) (outer : List Env) (s : Shared) (H : Hp) (args : Args) (us : List Value) (vs : List V) (Q : VK) (E : XK), Room k A → A.guards = some [] → Env0 P w K mg base A outer s H → BindsTo s fd args (ps.zip us) → Vals vs us → sp vs H Q E →
    codeAny (model P w) A (.call (.ref f) args) (CR CX outer P w H s Q E) s
section
variable {CX : CXT} {P : Program} {w : World} {K : PySem.W.Frag} {mg : Str → Option Value} {base : Heap} {k : Nat} {f : Addr} {fd : FuncData} {ps : List Str} {sp : Sp}
theorem FnG.ofOk (F : FnOk P w K mg base CX k f fd ps sp) : FnG P w K mg base CX k f fd ps sp := ⟨F.len, fun A outer s H args us vs Q E hr _ => F.run A outer s H args us vs Q E hr⟩
/-- from the body's walk -/
theorem fng_of {name qual : Str} {params : Arguments} {body : List Stmt} {scope : Scope} {dV kV doc pm cdv ct oc : Value} {an od : Option Addr} {osl : Array (Option Value)} {N : List Str}
    (lk : K.lookup f = some ⟨oc, od, .func (PySem.W.fnOf name qual params body scope dV kV doc pm an cdv ct), osl⟩) (hcd : PySem.W.codeIn K cdv qual = true) (S : FnScope N ps scope) (len : ∀ vs H Q E, sp vs H Q E → vs.length = ps.length)
    (walk : ∀ (A : Around) (outer : List Env) (s : Shared) (H : Hp) (vs : List V) (Q : VK) (E : XK), Room k (A.deeper (envOfC qual scope s.heap.objs.size f cdv)) → (A.deeper (envOfC qual scope s.heap.objs.size f cdv)).guards = some [] → sp vs H Q E →
      ∃ t, PSs (cxOf CX P w K mg base N qual scope f cdv A outer s H E) body t ∧ t { nx := fun _ H' => Q .non H', rt := Q } (start N vs) H) :
    FnG P w K mg base CX (k + 1) f (PySem.W.fnOf name qual params body scope dV kV doc pm an cdv ct) ps sp := by
  refine ⟨len, fun A outer s H args us vs Q E hr hg e0 hb r hsp => ?_⟩
  have lim : s.heap.NoLimit := e0.mod.nolimit.keeps fun b o e => (e0.bs b o e).1
  have KX : K.In s.heap := e0.mod.kin.keeps fun b o e => (e0.bs b o e).1
  refine codeAny_call_function hr.depth (KX _ _ lk) rfl S.co S.gen rfl (PySem.W.codeRec_of KX hcd) (hb _ _ _ _ (wpAny_newFunctionEnv_cells S.kind (fun y hy => ?_) fun env he s1 x => ?_))
  · exact (S.par y.1 (List.of_mem_zip hy).1).elim .inl fun q => .inr ⟨q, PySem.W.cellsFrom_some _ _ _ (.inl q)⟩
  subst he
  refine ⟨lim.keeps x.toInCall.keep, codeAny_func ?_⟩
  obtain ⟨t, ht, hq⟩ := walk A outer s H vs Q E (hr.deeper _) hg hsp
  have I := inv_start (CX := CX) (E := E) S hr.hd e0 (len _ _ _ _ hsp) r x
  refine wpAny_mono (ht.run [] s1 (start N vs) H _ I hq) (fun fl s' hs => ?_) fun e s' hs => hs
  match fl, hs with
  | .ret u, ⟨v, σ', H', J, rv, q⟩ => exact ⟨v, H', J.os, J.bare, J.base, J.hok, rv, q⟩
  | .next, ⟨σ', H', J, q⟩ => exact ⟨V.non, H', J.os, J.bare, J.base, J.hok, rfl, q⟩
  | .brk, ⟨_, _, _, q⟩ => exact q.elim
  | .cont, ⟨_, _, _, q⟩ => exact q.elim
/-- the same of a def that lets nothing out -/
theorem Fun.okG {x qual : Str} {st : Stmt} {N : List Str} (F : Fun K x qual st f fd) (S : FnScope N ps (defScope st)) (len : ∀ vs H Q E, sp vs H Q E → vs.length = ps.length)
    (walk : ∀ (cdv : Value) (A : Around) (outer : List Env) (s : Shared) (H : Hp) (vs : List V) (Q : VK) (E : XK), Room k (A.deeper (envOfC qual (defScope st) s.heap.objs.size f cdv)) → (A.deeper (envOfC qual (defScope st) s.heap.objs.size f cdv)).guards = some [] → sp vs H Q E →
      ∃ t, PSs (cxOf CX0 P w K mg base N qual (defScope st) f cdv A outer s H E).nox (defBody st) t ∧ t { nx := fun _ H' => Q .non H', rt := Q } (start N vs) H) : FnG P w K mg base CX0 (k + 1) f fd ps sp := by
  obtain ⟨oc, od, kV, doc, pm, an, cdv, ct, osl, rfl, lk, hcd⟩ := F.ex
  refine fng_of lk hcd S len fun A outer s H vs Q E hr hg hsp => ?_
  obtain ⟨t, h, q⟩ := walk cdv A outer s H vs Q E hr hg hsp
  exact ⟨t, h.nox, q⟩
end
/-- a def, as a caller sees it, where no repr is under way -/
structure ClG (P : Program) (w : World) (K : PySem.W.Frag) (mg : Str → Option Value) (base : Heap) (k : Nat) (x : Str) (sp : Sp) (dvs : List V) : Prop where
  ex : ∃ (f : Addr) (fd : FuncData) (ps : List Str) (ds : List Value), FnG P w K mg base CX0 k f fd ps sp ∧ mg x = some (.ref f) ∧ PySem.W.keepIn K (.ref f) = true ∧ Binds K fd ps ds ∧ Vals dvs ds
section
variable {X : Cx} {k j : Nat} {C : Addr} {x m : Str} {sp : Sp} {dvs : List V} {p pos apos : Pos} {e o : Expr} {es : List Expr} {ta : TE} {t : TA}
theorem pe_cg (c : ClG X.prog X.w X.K X.mg X.base k x sp dvs) (hr : Room j X.A) (hk : k ≤ j) (gd : X.A.guards = some []) (hg : Gl X x) (ha : PA X (e :: es) t) (hdb : (x == ("__debug__" : Str)) = false := by decide)
    (he : starEach (e :: es) X.env = (false, eval e X.env) :: starEach es X.env := by rfl) (hpl : (backTo pos (starEach es X.env)).any (·.1) = false := by rfl) : PE X (.Call (.Name x p) (e :: es) [] pos) (tCall sp dvs E0 t) := by
  obtain ⟨f, fd, ps, ds, F, hm, kp, hb, hd⟩ := c.ex
  refine ⟨fun pins s σ H Q I h => wpAny_Call_Name_kw (ld_glob I hg hm ?_ hdb)⟩
  refine PySem.W.callWith_K (h₀ := X.base) I.ok.mod.kin kp (thn (ha.run pos pins s σ H _ I h) fun us s1 ⟨vs, H1, I1, r, q⟩ => ⟨I1.kIn, ?_⟩) he hpl
  have r2 : Vals (vs ++ dvs) (us ++ ds) := r.append hd
  have hl : (us ++ ds).length = ps.length := r2.length.symm.trans (F.len _ _ _ _ q)
  refine wpAny_call (codeAny_mono (F.run X.A X.stack s1 H1 ⟨us, []⟩ (us ++ ds) (vs ++ dvs) Q E0 (hr.mono hk) gd I1.env0 (hb s1 us I1.kIn hl) r2 q) fun r s' hq => ?_)
  match r, hq with
  | .error _, hq => exact hq.elim
  | .ok (.ret u), hq => exact I1.after hq
  | .ok .next, hq => exact hq.elim
  | .ok .brk, hq => exact hq.elim
  | .ok .cont, hq => exact hq.elim
end
/-! the end of a law's row -/
theorem law_callG {P : Program} {w : World} {K : PySem.W.Frag} {mg mb : Str → Option Value} {k : Nat} {fa a : Addr} {fd : FuncData} {x : Str} {sp : Sp} {s₁ : Shared} {vs : List Value} {ns : List Int}
    (KX : K.In s₁.heap) (hns : s₁.heap.Ns mainGlobals mg) (hb : s₁.heap.Ns builtinsNs mb) (hbb : ∀ x : Str, x ≠ "__name__" → mb x = bootBuiltins x) (hlim : s₁.heap.NoLimit) (hg : s₁.gens = #[])
    (ha : s₁.heap.get? a = some { cls := .type "list", data := .seq vs.toArray }) (hi : IntsAre vs ns) (hl : ns.length ≤ sizeLine) (hr : Room k callerA)
    (F : ∀ base : Heap, K.In base → base.Ns mainGlobals mg → FnG P w K mg base CX0 k fa fd [x] sp) (hbind : ∀ (s : Shared) (u : Value), BindsTo s fd ⟨[u], []⟩ [(x, u)])
    (hsp : ∀ H : Hp, Only H → SqL K H a (ns.map V.int) → sp [.ref a] H (fun v _ => v = .bl true) fun _ _ _ => False) :
    codeAny (model P w) callerA (.call (.ref fa) ⟨[.ref a], []⟩) (fun r s' => r = .ok (.ret (.bool true)) ∧ OldK s₁.heap s'.heap ∧ s'.os = s₁.os ∧ AllBare s'.gens) s₁ := by
  have rv := vals_ints hi
  -- the script's list stands locked, or in the written part
  have core : ∀ H : Hp, Only H → SqL K H a (ns.map V.int) → HOk P w H s₁.heap → (∀ b, H b ≠ none → b = a) → (H a ≠ none → K.lookup a = none) →
      codeAny (model P w) callerA (.call (.ref fa) ⟨[.ref a], []⟩) (fun r s' => r = .ok (.ret (.bool true)) ∧ OldK s₁.heap s'.heap ∧ s'.os = s₁.os ∧ AllBare s'.gens) s₁ := by
    intro H only sq ok here notK
    have low : ∀ {b : Addr} {u : HO}, H b = some u → b = a := fun {b u} e => here b (by rw [e]; simp)
    have isD : ∀ {b : Addr} {o : Obj} {es : Array DictEntry} {ep : Nat}, s₁.heap.get? b = some o → o.data = .dict es ep → H b = none := fun {b o es ep} e d => by
      cases q : H b with
      | none => rfl
      | some u =>
        obtain rfl := low q
        obtain rfl := Option.some.inj (ha.symm.trans e)
        cases d
    have nsK : ∀ {b : Addr} {m : Str → Option Value}, s₁.heap.Ns b m → (hidT s₁.heap H).Ns b m := fun {b m} ⟨o, es, ep, e, d, r⟩ => ⟨o, es, ep, hidT_get e (isD e d), d, r⟩
    have inK : K.In (hidT s₁.heap H) := fun b o e => by
      refine hidT_get (KX b o e) ?_
      cases q : H b with
      | none => rfl
      | some u =>
        obtain rfl := low q
        rw [notK (by rw [q]; simp)] at e
        cases e
    have e0 : Env0 P w K mg (hidT s₁.heap H) callerA [] s₁ H :=
      ⟨rfl, ⟨inK, nsK hns, ⟨mb, nsK hb, hbb⟩, let ⟨mc, h1, h2⟩ := hlim; ⟨mc, nsK h1, h2⟩⟩, fun b o e => of_hidT e, Nat.le_of_eq (hidT_size _ _), trivial, (fun b z => absurd (show b ∈ ([] : List Addr) from z) List.not_mem_nil), ok, .of_eq hg⟩
    refine codeAny_mono ((F _ inK (nsK hns)).run callerA [] s₁ H ⟨[.ref a], []⟩ [.ref a] [.ref a] _ _ hr rfl e0 (hbind s₁ (.ref a)) (.cons rfl .nil) (hsp H only sq)) fun r s' h => ?_
    match r, h with
    | .error _, h => exact h.elim
    | .ok .next, h => exact h.elim
    | .ok .brk, h => exact h.elim
    | .ok .cont, h => exact h.elim
    | .ok (.ret u), ⟨v, H', os, bare, un, ok', r', q⟩ =>
      obtain rfl : v = .bl true := q
      obtain rfl : u = Value.bool true := r'
      refine ⟨rfl, OldK.of_keep fun b o e => ?_, os, bare⟩
      rcases only b with z | ⟨ob, xs, z⟩
      · exact un.keep b o e z (fun y => absurd (show b ∈ ([] : List Addr) from y) List.not_mem_nil) (fun y => absurd (show b ∈ ([] : List Addr) from y) List.not_mem_nil)
      · obtain ⟨e1, _⟩ := ok b _ z
        obtain ⟨e2, _⟩ := ok' b _ (un.frzs b ob _ z)
        obtain rfl := Option.some.inj (e.symm.trans e1)
        exact e2
  cases hk : K.lookup a with
  | some o =>
    obtain rfl := Option.some.inj (ha.symm.trans (KX a o hk))
    exact core (fun _ => none) (fun _ => .inl rfl) (.inr ⟨_, vs.toArray, _, hk, rfl, rfl, rfl, by rw [List.size_toArray, hi.length]; exact hl, by simpa using rv⟩) (fun b u z => by cases z) (fun b z => absurd rfl z) fun z => absurd rfl z
  | none =>
    refine core (fun b => if b = a then some (.frz { cls := .type "list", data := .seq vs.toArray } (.lst (ns.map V.int))) else none) (fun b => ?_) (.inl (.inr ⟨_, if_pos rfl⟩)) (fun b u z => ?_) (fun b z => ?_) fun _ => hk
    · by_cases e : b = a
      · exact .inr ⟨_, _, if_pos e⟩
      · exact .inl (if_neg e)
    · by_cases e : b = a
      · subst e
        obtain rfl := Option.some.inj ((if_pos rfl).symm.trans z)
        exact ⟨ha, by rw [List.length_map]; exact hl, vs, _, rv, ha⟩
      · exact absurd ((if_neg e).symm.trans z) (by simp)
    · exact Classical.byContradiction fun e => z (if_neg e)
theorem walk_ofG {l : PySem.W.OpenLaw} {n k : Nat} {q : Program} {loose : List Str} {XP : (Str → Option Value) → Heap → Prop} {YP : World → Heap → Prop} {d : DefRec} {K : Params → PySem.W.Frag} {sp : World → Sp} {x : Str}
    (hn : l.most = some n) (hn2 : n ≤ sizeLine) (hdf : d.params.defaults = []) (hr : Room k callerA) (hY : ∀ (w : World) (h : Heap), YP w h → (K w.params).In h)
    (F : ∀ (w : World) (mg : Str → Option Value) (fa : Addr) (h : Heap), (K w.params).In h → h.Ns mainGlobals mg → mg d.name = some (.ref fa) →
      ∃ fd : FuncData, (∀ (s : Shared) (u : Value), BindsTo s fd ⟨[u], []⟩ [(x, u)]) ∧ ∀ base : Heap, (K w.params).In base → base.Ns mainGlobals mg → FnG l.prog w (K w.params) mg base CX0 k fa fd [x] (sp w))
    (hsp : ∀ (w : World) (H : Hp) (a : Addr) (ns : List Int), ns.length ≤ n → Only H → SqL (K w.params) H a (ns.map V.int) → sp w [.ref a] H (fun v _ => v = .bl true) fun _ _ _ => False) :
    PySem.W.WalkO q loose XP YP l.row.toRowW d [] (fun f vs => PySem.call f vs) := by
  refine Att.attach_call hn hdf fun w s₀ s₁ mg mb fa o pm cd doc a vs ns G Y ho hd hcd hmg hobj hints hlen hg => ?_
  obtain ⟨fd, hb, hF⟩ := F w mg fa _ (hY w _ Y) G.T.g hmg
  exact law_callG (hY w _ Y) G.T.g G.T.b G.T.builtins G.T.nolimit hg hobj hints (Nat.le_trans hlen hn2) hr hF hb fun H hO hS => hsp w H a ns hlen hO hS
end L2.G42

set_option Elab.async false
set_option linter.all false
set_option maxRecDepth 100000
set_option maxHeartbeats 4000000
namespace L2.G42
open PySem PySem.Spec PyProof.Rows
section
variable {X : Cx} {CX : CXT} {n : Nat} {C f : Addr} {fd : FuncData} {ps : List Str} {sp : Sp} {E : XK}
/-! len(o), v in o by own methods -/
def rLenI (C : Addr) (sp : Sp) (E : XK) : List V → Hp → VK → Prop := fun xs H Q => ∃ a dx fs, xs = [.ref a] ∧ H a = some (.ins C dx fs) ∧ sp [.ref a] H (fun v H' => ∃ k : Nat, v = .int (k : Nat) ∧ k < 2 ^ 62 ∧ Q v H') E
theorem env_in1 {pins : List (Addr × Obj)} {σ : St} {H : Hp} {s : Shared} (I : Inv X pins σ H s) : Env0 X.prog X.w X.K X.mg X.base X.A.in1 X.stack s H := by
  have e := I.env0
  exact ⟨e.frames, e.mod, e.bs, e.bsz, e.funs, e.frf, e.hok, e.bare⟩
theorem call_lenI (F : FnOk X.prog X.w X.K X.mg X.base CX n f fd ps sp) (hs : PySem.W.findIn X.K (.ref C) "__len__" = some (some (.ref f))) (hf : PySem.W.isFn X.K (.ref f) = true) (hb : Binds X.K fd ps []) (hr : Room (n + 1) X.A) (hx : Passes CX X E) :
    CallR X (.builtin "len") (rLenI C sp E) := by
  intro pins s σ H xs us Q I r h
  obtain ⟨a, dx, fs, rfl, ha, hsp⟩ := h
  rw [Vals.ref1 r]
  obtain ⟨mA, J, _⟩ := ins_get I.hok ha
  obtain ⟨od, J, _⟩ := J.look
  obtain ⟨m, hF⟩ := I.fr
  refine PySem.W.len_K hF I.ok.mod.kin J hs hf ?_
  have hl := F.len _ _ _ _ hsp
  refine wpAny_call (codeAny_mono (F.run X.A.in1 X.stack s H ⟨[.ref a], []⟩ [.ref a] [.ref a] _ E hr.in1 (env_in1 I) (by
    have := hb s [.ref a] I.kIn (by simpa using hl)
    simpa using this) (.cons rfl .nil) hsp) fun r s' hq => ?_)
  match r, hq with
  | .error e, hq => exact hx pins σ H s e s' I hq
  | .ok .next, hq => exact hq.elim
  | .ok .brk, hq => exact hq.elim
  | .ok .cont, hq => exact hq.elim
  | .ok (.ret u), hq =>
    obtain ⟨z, H', I', rz, k, rfl, hk, q⟩ := I.after hq
    obtain ⟨t, rfl⟩ := rz
    exact ⟨⟨by omega, by omega⟩, .int k, H', I'.tok _, ⟨_, rfl⟩, q⟩
/-- v in o -/
def rInI (C : Addr) (sp : Sp) (E : XK) (neg : Bool) : R2 := fun x y H Q => ∃ a dx fs, y = .ref a ∧ H a = some (.ins C dx fs) ∧ sp [y, x] H (fun v H' => ∃ b : Bool, v = .bl b ∧ Q (.bl (if neg = true then !b else b)) H') E
theorem op_inI (F : FnOk X.prog X.w X.K X.mg X.base CX n f fd ps sp) (hs : PySem.W.findIn X.K (.ref C) "__contains__" = some (some (.ref f))) (hf : PySem.W.isFn X.K (.ref f) = true) (hb : Binds X.K fd ps []) (hr : Room n X.A) (hx : Passes CX X E) :
    OpR X (compareOp .In) (rInI C sp E false) := by
  intro pins s σ H x y u v Q I rx ry h
  obtain ⟨a, dx, fs, rfl, ha, hsp⟩ := h
  cases ry
  obtain ⟨mA, J, _⟩ := ins_get I.hok ha
  obtain ⟨od, J, _⟩ := J.look
  obtain ⟨m, hF⟩ := I.fr
  refine PySem.W.in_K hF I.ok.mod.kin J hs hf (wpAny_mono (own_call F hb hr hx I (x := .ref a) (y := x) rfl rx hsp) (fun r s' q => ?_) fun _ _ e => e)
  cases r <;> first | exact q.elim | skip
  all_goals obtain ⟨z, H', I', rz, b, rfl, q⟩ := q
  all_goals cases rz
  exact wpAny_truthy_bool ⟨.bl _, H', I', rfl, q⟩
/-! repr of data -/
def rReprD (K : PySem.W.Frag) : List V → Hp → VK → Prop := fun xs H Q => ∃ x d, xs = [x] ∧ Dp K H x d ∧ d.showable = true ∧ d.hasDict = false ∧ d.shown.length ≤ sizeLine ∧ d.depth ≤ 60 ∧ Q (.str d.shown) H
theorem call_reprD (hg : X.A.guards = some []) (hu : X.A.units + 64 < cLine) : CallR X (.builtin "repr") (rReprD X.K) := by
  intro pins s σ H xs us Q I r h
  obtain ⟨x, d, rfl, dp, sh, nd, sz, dep, q⟩ := h
  match us, r with
  | [u], .cons rx .nil =>
    cases dp with
    | non =>
      cases rx
      exact PySem.P.repr_of_none ⟨.str _, H, I.tok _, ⟨_, rfl⟩, q⟩
    | bl b =>
      cases rx
      exact PySem.P.repr_of_bool ⟨.str _, H, I.tok _, ⟨_, rfl⟩, q⟩
    | int i =>
      obtain ⟨t, rfl⟩ := rx
      exact PySem.P.repr_of_int (by simpa [PyData.showable] using sh) ⟨.str _, H, I.tok _, ⟨_, rfl⟩, q⟩
    | str z =>
      obtain ⟨t, rfl⟩ := rx
      exact PySem.P.repr_of_str ⟨.str _, H, I.tok _, ⟨_, rfl⟩, q⟩ sz
    | lst h1 h2 =>
      obtain ⟨as, rd⟩ := Dp.reads I _ _ u (.lst h1 h2) rx
      cases rx
      exact repr_of_reads' rd sh (fun e => by rw [nd] at e; cases e) hg (by omega) (fun _ _ e => e) (fun h' t tk k => ⟨.str _, H, I.kept k, ⟨_, rfl⟩, q⟩) sz
    | tup h1 h2 =>
      obtain ⟨as, rd⟩ := Dp.reads I _ _ u (.tup h1 h2) rx
      cases rx
      exact repr_of_reads' rd sh (fun e => by rw [nd] at e; cases e) hg (by omega) (fun _ _ e => e) (fun h' t tk k => ⟨.str _, H, I.kept k, ⟨_, rfl⟩, q⟩) sz
theorem call_reprK {K : PySem.W.Frag} (hK : X.K = K) (hg : X.A.guards = some []) (hu : X.A.units + 64 < cLine) : CallR X (.builtin "repr") (rReprD K) := by
  subst hK
  exact call_reprD hg hu
/-! a for over one of two kinds of things -/
theorem pi_or {tg e : Expr} {w1 w2 : TI} (h1 : PI X tg e w1) (h2 : PI X tg e w2) : PI X tg e (fun σ H R => w1 σ H R ∨ w2 σ H R) :=
  ⟨fun pins s σ H R I h => h.elim (h1.run pins s σ H R I) (h2.run pins s σ H R I)⟩
end
end L2.G42

set_option Elab.async false
set_option linter.all false
set_option maxRecDepth 100000
set_option maxHeartbeats 4000000
namespace L2.G42
open PySem PySem.Spec PyProof.Rows
/-! errors with one attribute: class B(NestedError): def __init__(self, f): self.f = f -/
/-- what its __init__ promises -/
def spErr (C : Addr) (f : Str) : Sp := fun vs H Q _ => ∃ (a : Addr) (x : V), vs = [.ref a, x] ∧ H a = some (exo a C none) ∧ ∀ d, H d = none → d ≠ a → Q .non (upd (upd H d (exd d [(f, x)])) a (exo a C (some d)))
/-- the class, as a raise sees it -/
structure Er (P : Program) (w : World) (K : PySem.W.Frag) (mg : Str → Option Value) (base : Heap) (k : Nat) (x : Str) (C : Addr) (f : Str) : Prop where
  ex : ∃ (fI : Addr) (fd : FuncData) (ps : List Str), FnOk P w K mg base CX0 k fI fd ps (spErr C f) ∧ PySem.W.findIn K (.ref C) "__init__" = some (some (.ref fI)) ∧ PySem.W.typeIn K (.ref fI) = some (.type "function") ∧ Binds K fd ps []
  ok : OexC K C
  gl : mg x = some (.ref C)
theorem upd_err {H : Hp} {a d : Addr} {o1 o2 o3 u : HO} (ha : H a = none) (hd : d ≠ a) : upd (del (upd (upd (upd H a o1) d o2) a o3) a) d u = upd H d u := by
  funext b
  by_cases h1 : b = d
  · subst h1; rw [upd_same, upd_same]
  · rw [upd_ne h1, upd_ne h1]
    by_cases h2 : b = a
    · subst h2; rw [del_same, ha]
    · rw [del_ne h2, upd_ne h2, upd_ne h1, upd_ne h2]
/-- raise x(e) -/
def tRaise1 (C : Addr) (f : Str) (W : WX) (te : TE) : TS := fun _ σ H => tMkO C (spErr C f) [] (tCons te tNil) σ H fun cls d H' => W cls d σ H'
theorem err_one {C : Addr} {f : Str} {v : V} {H : Hp} {Q : XK} (k : ∀ d, H d = none → Q (.ref C) (some d) (upd H d (.xd [(f, v)]))) : [v].length ≤ 1000 ∧ ∀ a, H a = none → spErr C f (.ref a :: ([v] ++ [])) (upd H a (exo a C none))
    (fun z H2 => z = .non ∧ ∃ (d : Addr) (fs : List (Str × V)), H2 a = some (exo a C (some d)) ∧ H2 d = some (exd d fs) ∧ H d = none ∧ Q (.ref C) (some d) (upd (del H2 a) d (.xd fs))) (fun _ _ _ => False) := by
  refine ⟨by show 1 ≤ 1000; decide, fun a ha => ⟨a, v, rfl, upd_same, fun d hd ne => ⟨rfl, d, [(f, v)], upd_same, ?_, ?_, ?_⟩⟩⟩
  · rw [upd_ne ne, upd_same]
  · rw [upd_ne ne] at hd
    exact hd
  · rw [upd_ne ne] at hd
    rw [upd_err ha ne]
    exact k d hd
section
variable {X : Cx} {k j : Nat} {C : Addr} {x f m : Str} {sp : Sp} {dvs : List V} {p pos pos2 apos : Pos} {e o : Expr} {es : List Expr} {ta te : TE} {t : TA} {W : WX} {E : St → XK}
theorem ps_raise1 (c : Er X.prog X.w X.K X.mg X.base k x C f) (hc : X.calm = true) (tk : Takes X W) (hr : Room j X.A) (hk : k + 1 ≤ j) (hg : Gl X x) (he : PE X e te) (hdb : (x == ("__debug__" : Str)) = false := by decide)
    (hst : starEach (e :: []) X.env = (false, eval e X.env) :: starEach [] X.env := by rfl) : PS X (.Raise (some (.Call (.Name x p) [e] [] pos)) none pos2) (tRaise1 C f W te) := by
  obtain ⟨fI, fd, ps, F, h1, h2, hb⟩ := c.ex
  exact ps_raise hc tk (pmk_oex (dvs := []) c.ok h1 h2 F (hr.mono hk) hb .nil pass0 hg c.gl (pa_cons he pa_nil hst) hdb hst rfl)
/-! calls whose errors are wished for at the slots -/
/-- a method that may raise -/
structure MtX (P : Program) (w : World) (K : PySem.W.Frag) (mg : Str → Option Value) (base : Heap) (k : Nat) (C : Addr) (m : Str) (sp : Sp) (dvs : List V) : Prop where
  ex : ∃ (f : Addr) (fd : FuncData) (ps : List Str) (ds : List Value), Cls K C ∧ Meth K C m f ∧ FnOk P w K mg base (L2.CX P w) k f fd ps sp ∧ Binds K fd ps ds ∧ Vals dvs ds
/-- a class whose __init__ may raise -/
structure NwX (P : Program) (w : World) (K : PySem.W.Frag) (mg : Str → Option Value) (base : Heap) (k : Nat) (x : Str) (C : Addr) (sp : Sp) (dvs : List V) : Prop where
  ex : ∃ (f : Addr) (fd : FuncData) (ps : List Str) (ds : List Value), Mk K C f ∧ FnOk P w K mg base (L2.CX P w) k f fd ps sp ∧ mg x = some (.ref C) ∧ Binds K fd ps ds ∧ Vals dvs ds
/-- a def that may raise -/
structure ClX (P : Program) (w : World) (K : PySem.W.Frag) (mg : Str → Option Value) (base : Heap) (k : Nat) (x : Str) (sp : Sp) (dvs : List V) : Prop where
  ex : ∃ (f : Addr) (fd : FuncData) (ps : List Str) (ds : List Value), FnOk P w K mg base (L2.CX P w) k f fd ps sp ∧ mg x = some (.ref f) ∧ PySem.W.keepIn K (.ref f) = true ∧ Binds K fd ps ds ∧ Vals dvs ds
def tMethS (C : Addr) (m : Str) (sp : Sp) (dvs : List V) (E : St → XK) (ta : TE) (t : TA) : TE := fun σ H Q => ta σ H fun x H1 => ∃ a dx fs, x = .ref a ∧ H1 a = some (.ins C dx fs) ∧ fs.lookup m = none ∧
  t σ H1 fun vs H2 => sp (x :: (vs ++ dvs)) H2 Q (E σ)
def tMakeS (C : Addr) (sp : Sp) (dvs : List V) (E : St → XK) (t : TA) : TE := fun σ H Q => t σ H fun vs H1 => ∀ x dx, H1 x = none → H1 dx = none → dx ≠ x →
  sp (.ref x :: (vs ++ dvs)) (upd (upd H1 dx (.own x)) x (.ins C dx [])) (fun v H2 => v = .non ∧ Q (.ref x) H2) (E σ)
/-- no error leaves -/
theorem pe_mtx {pl : Sem Bool} (c : MtX X.prog X.w X.K X.mg X.base k C m sp dvs) (hr : Room j X.A) (hk : k ≤ j) (he : PE X o ta) (ha : PA X (e :: es) t)
    (hst : starEach (e :: es) X.env = (false, eval e X.env) :: starEach es X.env := by rfl) (hpl : (backTo pos (starEach es X.env)).any (·.1) = false := by rfl)
    (ht : eval (.Call (.Attribute o m apos) (e :: es) [] pos) X.env = (eval o X.env >>= fun ov => standAt apos.atName >>= fun _ => holding [ov] (getMethod ov m pl) >>= fun q => callWith pos q.1 q.2 (backTo pos (starEach (e :: es) X.env)) (backToKw pos (keywordEach [] X.env))) := by rfl) :
    PE X (.Call (.Attribute o m apos) (e :: es) [] pos) (tMeth C m sp dvs E0 ta t) :=
  let ⟨_, _, _, _, cl, hm, F, b, d⟩ := c.ex
  pe_meth (pl := pl) he cl hm F (hr.mono hk) b d passL ha hst hpl ht
theorem pe_mkx (c : NwX X.prog X.w X.K X.mg X.base k x C sp dvs) (hr : Room j X.A) (hk : k + 1 ≤ j) (hg : Gl X x) (ha : PA X (e :: es) t) (hdb : (x == ("__debug__" : Str)) = false := by decide)
    (he : starEach (e :: es) X.env = (false, eval e X.env) :: starEach es X.env := by rfl) (hpl : (backTo pos (starEach es X.env)).any (·.1) = false := by rfl) : PE X (.Call (.Name x p) (e :: es) [] pos) (tMake C sp dvs E0 t) :=
  let ⟨_, _, _, _, M, F, hm, b, d⟩ := c.ex
  pe_make M F (hr.mono hk) hg hm b d passL ha hdb he hpl
theorem pe_mkx0 (c : NwX X.prog X.w X.K X.mg X.base k x C sp dvs) (hr : Room j X.A) (hk : k + 1 ≤ j) (hg : Gl X x) (hdb : (x == ("__debug__" : Str)) = false := by decide) : PE X (.Call (.Name x p) [] [] pos) (tMake C sp dvs E0 tNil) :=
  let ⟨_, _, _, _, M, F, hm, b, d⟩ := c.ex
  pe_make0 M F (hr.mono hk) hg hm b d passL hdb
/-- in a try -/
theorem run_fnE {CX : CXT} {f : Addr} {fd : FuncData} {ps : List Str} {ds : List Value} {pins : List (Addr × Obj)} {σ : St} {H : Hp} {s : Shared} {Q : VK} {us : List Value} {vs : List V} (F : FnOk X.prog X.w X.K X.mg X.base CX k f fd ps sp) (hr : Room k X.A) (hb : Binds X.K fd ps ds) (hd : Vals dvs ds) (hx : PassesAt CX X σ (E σ))
    (I : Inv X pins σ H s) (r : Vals vs us) (h : sp (vs ++ dvs) H Q (E σ)) : wpAny (model X.prog X.w) X.A (call (.ref f) us) (EP X pins σ Q) X.xe s := by
  have r2 : Vals (vs ++ dvs) (us ++ ds) := r.append hd
  have hl : (us ++ ds).length = ps.length := r2.length.symm.trans (F.len _ _ _ _ h)
  refine wpAny_call (codeAny_mono (F.run X.A X.stack s H ⟨us, []⟩ (us ++ ds) (vs ++ dvs) Q (E σ) hr I.env0 (hb s us I.kIn hl) r2 h) fun r s' hq => ?_)
  match r, hq with
  | .error e, hq => exact hx pins H s e s' I hq
  | .ok (.ret u), hq => exact I.after hq
  | .ok .next, hq => exact hq.elim
  | .ok .brk, hq => exact hq.elim
  | .ok .cont, hq => exact hq.elim
theorem pe_mtS {pl : Sem Bool} (c : MtX X.prog X.w X.K X.mg X.base k C m sp dvs) (tk : Takes X W) (hr : Room j X.A) (hk : k ≤ j) (he : PE X o ta) (ha : PA X (e :: es) t)
    (hst : starEach (e :: es) X.env = (false, eval e X.env) :: starEach es X.env := by rfl) (hpl : (backTo pos (starEach es X.env)).any (·.1) = false := by rfl)
    (ht : eval (.Call (.Attribute o m apos) (e :: es) [] pos) X.env = (eval o X.env >>= fun ov => standAt apos.atName >>= fun _ => holding [ov] (getMethod ov m pl) >>= fun q => callWith pos q.1 q.2 (backTo pos (starEach (e :: es) X.env)) (backToKw pos (keywordEach [] X.env))) := by rfl) :
    PE X (.Call (.Attribute o m apos) (e :: es) [] pos) (tMethS C m sp dvs (WE W) ta t) := by
  obtain ⟨f, fd, ps, ds, cl, hm, F, hb, hd⟩ := c.ex
  refine ⟨fun pins s σ H Q I h => ?_⟩
  refine PySem.W.methodCall_KW (pl := pl) (thn (he.run pins s σ H _ I h) fun u s1 ⟨x, H1, I1, rx, a, dx, fs, ex, ea, l, q⟩ => ?_) ht
  subst ex
  obtain rfl : u = Value.ref a := rx
  refine getmeth_ok I1 ea cl hm l ?_
  refine PySem.W.callWith_K (first := [.ref a]) (h₀ := X.base) I.ok.mod.kin hm.kp (thn (ha.run pos pins s1 σ H1 _ I1 q) fun us s2 ⟨vs, H2, I2, r, q2⟩ => ⟨I2.kIn, ?_⟩) hst hpl
  exact run_fnE (us := .ref a :: us) (vs := .ref a :: vs) F (hr.mono hk) hb hd (passAt tk σ) I2 (.cons rfl r) q2
theorem pe_cS (c : ClX X.prog X.w X.K X.mg X.base k x sp dvs) (tk : Takes X W) (hr : Room j X.A) (hk : k ≤ j) (hg : Gl X x) (ha : PA X (e :: es) t) (hdb : (x == ("__debug__" : Str)) = false := by decide)
    (he : starEach (e :: es) X.env = (false, eval e X.env) :: starEach es X.env := by rfl) (hpl : (backTo pos (starEach es X.env)).any (·.1) = false := by rfl) :
    PE X (.Call (.Name x p) (e :: es) [] pos) (fun σ H Q => t σ H fun vs H1 => sp (vs ++ dvs) H1 Q (WE W σ)) := by
  obtain ⟨f, fd, ps, ds, F, hm, kp, hb, hd⟩ := c.ex
  refine ⟨fun pins s σ H Q I h => wpAny_Call_Name_kw (ld_glob I hg hm ?_ hdb)⟩
  refine PySem.W.callWith_K (h₀ := X.base) I.ok.mod.kin kp (thn (ha.run pos pins s σ H _ I h) fun us s1 ⟨vs, H1, I1, r, q⟩ => ⟨I1.kIn, ?_⟩) he hpl
  exact run_fnE F (hr.mono hk) hb hd (passAt tk σ) I1 r q
theorem pe_mkS (c : NwX X.prog X.w X.K X.mg X.base k x C sp dvs) (tk : Takes X W) (hr : Room j X.A) (hk : k + 1 ≤ j) (hg : Gl X x) (ha : PA X (e :: es) t) (hdb : (x == ("__debug__" : Str)) = false := by decide)
    (he : starEach (e :: es) X.env = (false, eval e X.env) :: starEach es X.env := by rfl) (hpl : (backTo pos (starEach es X.env)).any (·.1) = false := by rfl) : PE X (.Call (.Name x p) (e :: es) [] pos) (tMakeS C sp dvs (WE W) t) := by
  obtain ⟨f, fd, ps, ds, M, F, hm, hb, hd⟩ := c.ex
  refine ⟨fun pins s σ H Q I h => wpAny_Call_Name_kw (ld_glob I hg hm ?_ hdb)⟩
  refine PySem.W.callWith_K (h₀ := X.base) I.ok.mod.kin M.kp (thn (ha.run pos pins s σ H _ I h) fun us s1 ⟨vs, H1, I1, r, q1⟩ => ⟨I1.kIn, ?_⟩) he hpl
  have hq := q1 (s1.heap.objs.size + 1) s1.heap.objs.size (I1.hok.fresh (Nat.le_succ _)) (I1.hok.fresh (Nat.le_refl _)) (Nat.ne_of_lt (Nat.lt_succ_self _))
  have I2 := Inv.made (C := C) I1
  have r2 : Vals (V.ref (s1.heap.objs.size + 1) :: (vs ++ dvs)) (Value.ref (s1.heap.objs.size + 1) :: (us ++ ds)) := .cons rfl (r.append hd)
  have hl : (Value.ref (s1.heap.objs.size + 1) :: us ++ ds).length = ps.length := r2.length.symm.trans (F.len _ _ _ _ hq)
  refine wpAny_call (make_map (f := f) I1.kIn M.makes M.init (beq_iff_eq.mp M.fn) (codeAny_mono (F.run _ X.stack _ _ ⟨Value.ref (s1.heap.objs.size + 1) :: us, []⟩ (Value.ref (s1.heap.objs.size + 1) :: (us ++ ds)) _ _ (WE W σ) ((hr.mono hk).make C us [])
    (I2.env0.make C us []) (hb _ (Value.ref (s1.heap.objs.size + 1) :: us) I2.kIn hl) r2 hq) fun r s' hq' => ?_))
  match r, hq' with
  | .error er, hq' => exact passAt tk σ pins _ _ er s' I2 hq'
  | .ok .next, hq' => exact hq'.elim
  | .ok .brk, hq' => exact hq'.elim
  | .ok .cont, hq' => exact hq'.elim
  | .ok (.ret u), hq' =>
    obtain ⟨v, H', I3, rv, rfl, q3⟩ := I2.after hq'
    exact ⟨rv, ⟨V.ref (s1.heap.objs.size + 1), H', I3, rfl, q3⟩⟩
end
/-- isinstance(e, c), e the error that the suite holds, its dict at d -/
structure ExcD (K : PySem.W.Frag) (D : Addr) : Prop where
  hc : (PySem.W.clsIn K D).isSome = true
  hg : PySem.W.findIn K (.ref D) "__getattribute__" = some (some (.builtin "BaseException.__getattribute__"))
  hk : PySem.W.findIn K (.ref D) "__getattr__" = some none
  hs : PySem.W.subIn K (.ref D) (.type "BaseException") = some true
  ha : PySem.W.findIn K (.ref D) "__class__" = some (some (.builtin "object.__class__"))
  hn : PySem.W.specialIn K (.builtin "object.__class__") "__get__" = some (some (.builtin "getset_descriptor.__get__"))
  ht : PySem.W.takesIn K (.builtin "object.__class__") = some true
  hm : PySem.W.mroIn K D (.type "object") = some true
def rIsD (K : PySem.W.Frag) (D a : Addr) (cls : Value) (d : Option Addr) : List V → Hp → VK → Prop := fun xs H Q => ∃ (c : V) (cv : Value) (b : Bool) (dd : Addr) (fs : List (Str × V)), xs = [.ref a, c] ∧ cls = .ref D ∧ d = some dd ∧ H dd = some (.xd fs) ∧ (∀ u, RelV c u → u = cv) ∧ PySem.W.kitOne K (.ref D) cv = some b ∧ Q (.bl b) H
theorem call_isD {X : Cx} {a D : Addr} {oe : Obj} {cls : Value} {d : Option Addr} {pn : List (Addr × Obj)} (C : ExcD X.K D) (hz : Zc cls d oe) (hf : ∃ vs, oe.data = .fields vs) : CallR (X.suite a ((a, oe) :: pn)) (.builtin "isinstance") (rIsD X.K D a cls d) := by
  intro pins s σ H xs us Q I r h
  obtain ⟨c, cv, b, dd, fs, rfl, rfl, rfl, hd, hcv, e, q⟩ := h
  match us, r with
  | [u, uc], .cons rx (.cons rc .nil) =>
    cases rx
    obtain rfl := hcv _ rc
    obtain ⟨hget, _⟩ := I.pin (a, oe) (List.mem_append.mpr (.inl List.mem_cons_self))
    obtain ⟨vs, hv⟩ := hf
    have hx : ObjOk X.prog X.w H s.heap dd (.xd fs) := I.hok dd _ hd
    obtain ⟨mA, hns, _⟩ := hx
    obtain ⟨od, ho, _⟩ := lookIn_ns hns
    have J : PySem.W.InstAt s.heap a oe D (some od) := ⟨hget, hz.1, by unfold PySem.W.notCls; rw [hv] <;> rfl, by rw [hz.2]; exact ho⟩
    exact PySem.W.kia_one (PySem.W.kitx_exc C.hc C.hg C.hk C.hs C.ha C.hn C.ht C.hm) I.kIn J e (fun z => nomatch z) fun tk => ⟨.bl b, H, I.kept (t' := tk) fun _ _ z => z, rfl, q⟩
end L2.G42

set_option Elab.async false
set_option linter.all false
set_option maxRecDepth 100000
set_option maxHeartbeats 4000000
namespace L2.G42
open PySem PySem.Spec
open PyProof.Rows (boot_isinstance boot_int boot_bool boot_list boot_set boot_abs boot_enumerate)
theorem boot_sorted : bootBuiltins "sorted" = some (.builtin "sorted") := by decide +kernel
theorem boot_max : bootBuiltins "max" = some (.builtin "max") := by decide +kernel
theorem boot_min : bootBuiltins "min" = some (.builtin "min") := by decide +kernel
theorem boot_any : bootBuiltins "any" = some (.builtin "any") := by decide +kernel
theorem boot_repr : bootBuiltins "repr" = some (.builtin "repr") := by decide +kernel
/-- names of the module that are the built-in ones -/
structure Bn (mg : Str → Option Value) : Prop where
  isi : mg "isinstance" = none
  int : mg "int" = none
  bool : mg "bool" = none
  list : mg "list" = none
  sorted : mg "sorted" = none
  len : mg "len" = none
  set : mg "set" = none
  range : mg "range" = none
  enumerate : mg "enumerate" = none
  max : mg "max" = none
  min : mg "min" = none
  abs : mg "abs" = none
  any : mg "any" = none
  all : mg "all" = none
  tuple : mg "tuple" = none
  str : mg "str" = none
  dict : mg "dict" = none
  repr : mg "repr" = none
/-- what a bag may hold -/
def Fits (n : Int) : Prop := -(10 ^ 30) ≤ n ∧ n ≤ 10 ^ 30
/-- the heap has grown, or changed at the addresses of S alone -/
def But (S : Addr → Prop) (H H' : Hp) : Prop := ∀ b o, H b = some o → ¬ S b → H' b = some o
theorem But.refl {S : Addr → Prop} {H : Hp} : But S H H := fun _ _ h _ => h
theorem But.trans {S : Addr → Prop} {H H1 H2 : Hp} (a : But S H H1) (b : But S H1 H2) : But S H H2 := fun x o h n => b x o (a x o h n) n
theorem But.new {S : Addr → Prop} {H : Hp} {p : Addr} {o : HO} (h : H p = none) : But S H (upd H p o) := fun a u e _ => by
  rw [upd_ne (ne_of_none e h)]
  exact e
theorem But.at {S : Addr → Prop} {H : Hp} {p : Addr} {o : HO} (h : S p) : But S H (upd H p o) := fun a u e n => by
  rw [upd_ne (fun q => n (by rw [q]; exact h))]
  exact e
theorem But.mono {S S' : Addr → Prop} {H H' : Hp} (a : But S H H') (h : ∀ x, S x → S' x) : But S' H H' := fun x o e n => a x o e fun q => n (h x q)
/-- a change of what was not there before -/
theorem But.fresh {S : Addr → Prop} {H H' : Hp} {p : Addr} {o : HO} (a : But S H H') (h : H p = none) : But S H (upd H' p o) := fun x u e n => by
  rw [upd_ne (ne_of_none e h)]
  exact a x u e n
theorem But.free {H H' : Hp} (a : But (fun _ => False) H H') {p : Addr} (h : H' p = none) : H p = none := by
  cases e : H p with
  | none => rfl
  | some o => rw [a p o e id] at h; cases h
theorem szl {n : Nat} (h : n ≤ 100000) : n < sizeLine := Nat.lt_of_le_of_lt h (by decide)
theorem szle {n : Nat} (h : n ≤ 100000) : n ≤ sizeLine := Nat.le_of_lt (szl h)
theorem map_int_inj : ∀ {l m : List Int}, l.map V.int = m.map V.int → l = m
  | [], [], _ => rfl
  | [], _ :: _, h => by cases h
  | _ :: _, [], h => by cases h
  | x :: l, y :: m, h => by
    injection h with h1 h2
    injection h1 with h1
    rw [h1, map_int_inj h2]
theorem filter_take {α : Type} (f : α → Bool) (l : List α) {i : Nat} {x : α} (h : l[i]? = some x) : (l.take (i + 1)).filter f = (l.take i).filter f ++ if f x then [x] else [] := by
  rw [List.take_add_one, h, List.filter_append]
  congr 1
  show List.filter f [x] = _
  cases e : f x <;> simp [e]
theorem upd_twice (H : Hp) (a : Addr) (o o' : HO) : upd (upd H a o) a o' = upd H a o' := by
  funext b
  by_cases h : b = a
  · subst h; rw [upd_same, upd_same]
  · rw [upd_ne h, upd_ne h, upd_ne h]
abbrev src (c st n : Int) : HO := .lst [.int c, .int st, .int n]
def SrcAt (H : Hp) (a : Addr) : Prop := ∃ c st n : Int, H a = some (src c st n)
theorem src0 {K : PySem.W.Frag} {H : Hp} {a : Addr} {c st n : Int} (h : H a = some (src c st n)) : SqL K H a [.int c, .int st, .int n] := SqL.of h
theorem SqL.grow {K : PySem.W.Frag} {H H' : Hp} {a : Addr} {xs : List V} (h : SqL K H a xs) (g : But (fun _ => False) H H') : SqL K H' a xs := by
  rcases h with (h | ⟨o, h⟩) | h
  · exact .inl (.inl (g _ _ h id))
  · exact .inl (.inr ⟨o, g _ _ h id⟩)
  · exact .inr h
theorem cut_mem {xs : List V} {lo hi : Option Int} {x : V} (h : x ∈ cutV xs lo hi) : x ∈ xs := List.mem_of_mem_drop (List.mem_of_mem_take h)
theorem cut_to {xs : List V} {k : Nat} : cutV xs none (some (k : Int)) = xs.take k := by
  unfold cutV HT.sIx
  simp
  rw [if_neg (by omega)]
  omega
theorem take_map (ns : List Int) (k : Nat) : (ns.map V.int).take k = (ns.take k).map V.int := (List.map_take).symm
theorem SrcAt.but {H H' : Hp} {a : Addr} (h : SrcAt H a) (g : But (fun _ => False) H H') : SrcAt H' a := let ⟨c, st, n, e⟩ := h; ⟨c, st, n, g _ _ e id⟩
section
variable {K : PySem.W.Frag} {w : World}
theorem set_sorted {H : Hp} {Q : VK} {l : Addr} {ns xs : List Int} (hl : SqL K H l (ns.map V.int)) (few : ns.length < 64) (hx : xs.Pairwise (· < ·)) (hm : ∀ x, x ∈ xs ↔ x ∈ ns)
    (k : ∀ (q : Addr) (H' : Hp), H q = none → H' q = some (.lst (xs.map V.int)) → But (fun _ => False) H H' → Q (.ref q) H') :
    rSetL K w [.ref l] H fun v H1 => rSortedSet w [v] H1 Q := by
  refine ⟨l, ns, rfl, hl, by omega, fun p c hp hc => ⟨p, _, c, rfl, upd_same, by omega, fun ys q hy hz _ hq => ?_⟩⟩
  have e : ys = xs := rise_one hy hx fun x => by rw [hz, hm]; simp
  subst e
  have hq0 : H q = none := But.free (But.new hp) hq
  exact k q _ hq0 upd_same ((But.new hp).trans (But.new hq))
theorem inV_int (n : Int) (ys : List Int) : inV (.int n) (ys.map V.int) = decide (n ∈ ys) := by
  unfold inV
  rw [List.any_map, Bool.eq_iff_iff, List.any_eq_true, decide_eq_true_eq]
  constructor
  · rintro ⟨x, hx, e⟩
    have : x = n := by simpa [eqV] using e
    exact this ▸ hx
  · intro h
    exact ⟨n, h, by simp [eqV]⟩
theorem flat_ints (ys : List Int) : (ys.map V.int).all flatV = true := by
  rw [List.all_map, List.all_eq_true]
  intro x _
  rfl
end
def spTake : Sp := fun vs H Q _ => ∃ (a : Addr) (many : Int), vs = [.ref a, .int many] ∧ 0 < many ∧ many.natAbs.log2 < 9000 ∧ SrcAt H a ∧ ∀ r c st n : Int, 0 ≤ r → r < many → Q (.int r) (upd H a (src c st n))
def spSource (K : PySem.W.Frag) : Sp := fun vs H Q _ => ∃ (a : Addr) (ns : List Int) (z : Int), vs = [.ref a, .int z] ∧ 0 ≤ z ∧ SqL K H a (ns.map V.int) ∧ ∀ (p : Addr) (H' : Hp), H p = none → SrcAt H' p → But (fun _ => False) H H' → Q (.ref p) H'
def spValue : Sp := fun vs H Q _ => ∃ a : Addr, vs = [.ref a] ∧ SrcAt H a ∧ ∀ v c st n : Int, Fits v → Q (.int v) (upd H a (src c st n))
def spValues : Sp := fun vs H Q _ => ∃ (a : Addr) (most : Nat), vs = [.ref a, .int most] ∧ most ≤ 100 ∧ SrcAt H a ∧
  ∀ (p : Addr) (ns : List Int) (H' : Hp), H p = none → H' p = some (.lst (ns.map V.int)) → ns.length ≤ most + 1 → (∀ n ∈ ns, Fits n) → SrcAt H' a → But (· = a) H H' → Q (.ref p) H'
end L2.G42

set_option Elab.async false
set_option linter.all false
set_option maxRecDepth 100000
set_option maxHeartbeats 4000000
set_option pp.maxSteps 400
namespace K71
open PySem L2 L2.G42
open Evl (pss_cut)
open PyProof.Rows (boot_isinstance boot_int boot_bool boot_list boot_set boot_abs boot_enumerate)
def top (i : Nat) : Stmt := PySem.Challenge.pw_nestedwrites_k71_goals_read_and_written.main.body.getD i (.Pass ⟨0, 0, 0, 0⟩)
abbrev sDraw : Stmt := top 13
abbrev NDraw : List Str := ["_law_pot_here", "_law_many", "_law_digit", "_law_one", "_law_two", "_law_three"]
theorem scDraw : FnScope NDraw ["_law_pot_here", "_law_many"] (defScope sDraw) := ⟨rfl, rfl, rfl, by decide +kernel, rfl, by decide +kernel, by decide +kernel⟩
abbrev sPot : Stmt := top 12
abbrev NPot : List Str := ["_law_script", "_law_at", "_law_cell", "_law_mixed"]
theorem scPot : FnScope NPot ["_law_script", "_law_at"] (defScope sPot) := ⟨rfl, rfl, rfl, by decide +kernel, rfl, by decide +kernel, by decide +kernel⟩
section
variable {P : Program} {w : World} {K : PySem.W.Frag} {mg : Str → Option Value} {base : Heap}
theorem ok_draw {f : Addr} {fd : FuncData} (F : Fun K "_law_draw" "_law_draw" sDraw f fd) (T : Bn mg) : FnOk P w K mg base CX0 1 f fd ["_law_pot_here", "_law_many"] spTake := by
  refine F.ok scDraw (fun vs H Q E h => ?_) (fun cdv A outer s H vs Q E hr h => ?_)
  · obtain ⟨a, many, rfl, _⟩ := h
    rfl
  · obtain ⟨a, many, rfl, h0, h9, ⟨c, st, n, hs⟩, k⟩ := h
    refine ⟨_, (pss_cons (ps_if (pt_cmpR op_gt (pe_ix ix_list (pv 0) pe_int (fun _ _ => rfl)) pe_int (nomark _)) (pss_cons (ps_set (i := 2) scDraw.nd rfl (.inl rfl) (pe_op op_mod (pe_callTy call_int1 (by rfl) T.int boot_int (pa_cons (pe_ix ix_list (pv 0) pe_int (fun _ _ => rfl)) pa_nil)) (pv 1)))
          (pss_cons (ps_asg (pe_op op_fdivW (pe_callTy call_int1 (by rfl) T.int boot_int (pa_cons (pe_ix ix_list (pv 0) pe_int (fun _ _ => rfl)) pa_nil)) (pv 1)) (pg_sub (pv 0) pe_int set_list))
          (pss_one (ps_ret (pv 2))))) pss_nil)
        (pss_cons (ps_asg (pe_op op_add (pe_ix ix_list (pv 0) pe_int (fun _ _ => rfl)) pe_int) (pg_sub (pv 0) pe_int set_list))
        (pss_cons (ps_set (i := 3) scDraw.nd rfl (.inl rfl) (pe_op op_mod (pe_callTy call_int1 (by rfl) T.int boot_int (pa_cons (pe_op op_add (pe_op op_mul (pe_ix ix_list (pv 0) pe_int (fun _ _ => rfl)) pe_int) (pe_op op_mul (pe_ix ix_list (pv 0) pe_int (fun _ _ => rfl)) pe_int)) pa_nil)) pe_int))
        (pss_cons (ps_set (i := 4) scDraw.nd rfl (.inl rfl) (pe_op op_mod (pe_callTy call_int1 (by rfl) T.int boot_int (pa_cons (pe_op op_add (pe_op op_add (pe_op op_mul (pv 3) (pv 3)) (pe_ix ix_list (pv 0) pe_int (fun _ _ => rfl))) (pe_op op_mul (pe_ix ix_list (pv 0) pe_int (fun _ _ => rfl)) pe_int)) pa_nil)) pe_int))
        (pss_cons (ps_set (i := 5) scDraw.nd rfl (.inl rfl) (pe_op op_mod (pe_callTy call_int1 (by rfl) T.int boot_int (pa_cons (pe_op op_add (pe_op op_mul (pv 4) pe_int) (pe_op op_mul (pv 3) (pe_ix ix_list (pv 0) pe_int (fun _ _ => rfl)))) pa_nil)) pe_int))
        (pss_one (ps_ret (pe_op op_mod (pe_callTy call_int1 (by rfl) T.int boot_int (pa_cons (pe_op op_fdivW (pv 5) pe_int) pa_nil)) (pv 1))))))))), ?_⟩
    refine ⟨_, rfl, a, _, _, _, rfl, rfl, src0 hs, rfl, _, _, rfl, rfl, _, rfl, ?_⟩
    refine ite2 (fun h => ?_) (fun h => ?_)
    · refine ⟨_, rfl, a, _, _, _, rfl, rfl, src0 hs, rfl, .inl ⟨_, rfl, _, rfl, _, _, rfl, rfl, h0, ?_⟩⟩
      refine ⟨_, rfl, a, _, _, _, rfl, rfl, src0 hs, rfl, .inl ⟨_, rfl, _, rfl, _, _, rfl, rfl, ⟨h0, h9⟩, _, rfl, a, _, _, 0, rfl, rfl, hs, rfl, _, rfl, ?_⟩⟩
      exact k _ _ _ _ (Int.emod_nonneg _ (by omega)) (Int.emod_lt_of_pos _ h0)
    · refine ⟨_, rfl, a, _, _, _, rfl, rfl, src0 hs, rfl, _, _, rfl, rfl, _, rfl, a, _, _, 2, rfl, rfl, hs, rfl, ?_⟩
      have h1 : (upd H a (src c st (n + 1))) a = some (src c st (n + 1)) := upd_same
      refine ⟨_, rfl, a, _, _, _, rfl, rfl, src0 h1, rfl, _, _, rfl, rfl, .inr ⟨by decide, by decide⟩, _, rfl, a, _, _, _, rfl, rfl, src0 h1, rfl, _, _, rfl, rfl, .inr ⟨by decide, by decide⟩, _, _, rfl, rfl, .inl ⟨_, rfl, _, _, rfl, rfl, (by decide : (0 : Int) < 2147483629), ?_⟩⟩
      have o1 := Int.emod_nonneg (st * 48271 + (n + 1) * 1000003) (by decide : (2147483629 : Int) ≠ 0)
      have o2 := Int.emod_lt_of_pos (st * 48271 + (n + 1) * 1000003) (by decide : (0 : Int) < 2147483629)
      dsimp only
      generalize (st * 48271 + (n + 1) * 1000003) % 2147483629 = o at o1 o2 ⊢
      have ob : -(2 ^ 64) < o ∧ o < 2 ^ 64 := ⟨by omega, by omega⟩
      refine ⟨_, rfl, _, rfl, _, _, rfl, rfl, .inl ob, _, rfl, a, _, _, _, rfl, rfl, src0 h1, rfl, _, _, rfl, rfl, _, rfl, a, _, _, _, rfl, rfl, src0 h1, rfl, _, _, rfl, rfl, .inr ⟨by decide, by decide⟩, _, _, rfl, rfl, .inl ⟨_, rfl, _, _, rfl, rfl, (by decide : (0 : Int) < 2305843009213693951), ?_⟩⟩
      refine ⟨_, rfl, _, _, rfl, rfl, .inr ⟨by decide, by decide⟩, _, rfl, _, rfl, a, _, _, _, rfl, rfl, src0 h1, rfl, _, _, rfl, rfl, .inl ob, _, _, rfl, rfl, .inl ⟨_, rfl, _, _, rfl, rfl, (by decide : (0 : Int) < 2147483587), ?_⟩⟩
      refine ⟨_, rfl, _, _, rfl, rfl, ⟨by decide, by decide⟩, .inl ⟨_, rfl, _, rfl, _, _, rfl, rfl, h0, ?_⟩⟩
      exact k _ _ _ _ (Int.emod_nonneg _ (by omega)) (Int.emod_lt_of_pos _ h0)
theorem ok_pot {f : Addr} {fd : FuncData} (F : Fun K "_law_pot" "_law_pot" sPot f fd) (T : Bn mg) : FnOk P w K mg base CX0 1 f fd ["_law_script", "_law_at"] (spSource K) := by
  refine F.ok scPot (fun vs H Q E h => ?_) (fun cdv A outer s H vs Q E hr h => ?_)
  · obtain ⟨a, ns, i, rfl, _⟩ := h
    rfl
  · obtain ⟨a, ns, z, rfl, hz, ha, k⟩ := h
    obtain ⟨i, rfl⟩ := Int.eq_ofNat_of_zero_le hz
    refine ⟨_, (pss_cut (ps_set (i := 2) scPot.nd rfl (.inl rfl) (pe_ifExp (pt_cmpR op_lt (pv 1) (pe_callB call_len_seq (by rfl) T.len PySem.boot_len (pa_cons (pv 0) pa_nil)) (nomark _)) (pe_callTy call_int1 (by rfl) T.int boot_int (pa_cons (pe_ix ix_list (pv 0) (pv 1) (fun _ _ => rfl)) pa_nil)) pe_int))
        (pss_cons (ps_set (i := 3) scPot.nd rfl (.inl rfl) (pe_op op_mod (pe_callTy call_int1 (by rfl) T.int boot_int (pa_cons (pe_callB call_abs (by rfl) T.abs boot_abs (pa_cons (pv 2) pa_nil)) pa_nil)) pe_int))
        (pss_one (ps_ret (pe_lst (pa_cons (pe_ifExp (pt_cmpR op_ge (pe_callB call_abs (by rfl) T.abs boot_abs (pa_cons (pv 2) pa_nil)) (pe_op op_pow pe_int pe_int) (nomark _)) (pe_callB call_abs (by rfl) T.abs boot_abs (pa_cons (pv 2) pa_nil)) pe_int) (pa_cons (pe_op op_add (pe_op op_add (pe_op op_add (pe_op op_mul (pv 3) pe_int) (pe_callTy call_int1 (by rfl) T.int boot_int (pa_cons (pe_cmpR op_lt (pv 2) pe_int (nomark _)) pa_nil))) (pe_op op_mul pe_int (pv 1))) pe_int) (pa_cons pe_int pa_nil)))))))), ?_⟩
    refine ⟨fun σ H1 => H1 = H ∧ ∃ cell : Int, σ = [some (.ref a), some (.int i), some (.int cell), none], ?_, ?_⟩
    · refine ⟨_, rfl, _, rfl, a, _, rfl, .inl ha, _, _, rfl, rfl, _, rfl, ite2 (fun h => ?_) (fun h => ?_)⟩
      · have h' : (i : Int) < ((ns.map V.int).length : Int) := by simpa using h
        have hi : i < ns.length := by
          rw [List.length_map] at h'
          omega
        have hg : (ns.map V.int)[i]? = some (V.int ns[i]) := by rw [List.getElem?_map, List.getElem?_eq_getElem hi]; rfl
        exact ⟨_, rfl, _, rfl, a, _, _, _, rfl, rfl, ha, atI_nat hg, .inl ⟨_, rfl, rfl, _, rfl⟩⟩
      · exact ⟨rfl, 0, rfl⟩
    · rintro σ H1 ⟨e1, cell, rfl⟩
      cases e1
      refine ⟨_, rfl, _, rfl, .inl ⟨_, rfl, _, _, rfl, rfl, (by decide : (0 : Int) < 2305843009213693951), ?_⟩⟩
      refine ⟨_, rfl, _, rfl, _, _, rfl, rfl, ⟨by decide, by decide, by decide⟩, _, _, rfl, rfl, _, rfl, ite2 (fun h => ?_) (fun h => ?_)⟩
      · refine ⟨_, rfl, _, rfl, _, rfl, _, _, rfl, rfl, .inr ⟨by decide, by decide⟩, _, rfl, _, _, rfl, rfl, .inr ⟨_, rfl, _, _, rfl, rfl, _, rfl, _, _, rfl, rfl, .inl ⟨by decide, by decide⟩, _, _, rfl, rfl, _, _, rfl, rfl, szle (by simp), fun p hp => ?_⟩⟩
        exact k p _ hp ⟨_, _, _, upd_same⟩ (But.new hp)
      · refine ⟨_, rfl, _, _, rfl, rfl, .inr ⟨by decide, by decide⟩, _, rfl, _, _, rfl, rfl, .inr ⟨_, rfl, _, _, rfl, rfl, _, rfl, _, _, rfl, rfl, .inl ⟨by decide, by decide⟩, _, _, rfl, rfl, _, _, rfl, rfl, szle (by simp), fun p hp => ?_⟩⟩
        exact k p _ hp ⟨_, _, _, upd_same⟩ (But.new hp)
end
end K71

set_option Elab.async false
set_option linter.all false
set_option maxRecDepth 100000
set_option maxHeartbeats 4000000
namespace L2.G42
open PySem PySem.Spec PySem.StrLaws
/-! data: what the draws of any value give -/
/-- G is a part of H -/
def Part (G H : Hp) : Prop := ∀ b o, G b = some o → H b = some o
theorem Part.refl {H : Hp} : Part H H := fun _ _ h => h
theorem Part.trans {G H J : Hp} (a : Part G H) (b : Part H J) : Part G J := fun x o h => b x o (a x o h)
theorem Part.upd {G H : Hp} {a : Addr} {o : HO} (p : Part G H) (h : G a = none) : Part G (upd H a o) := fun x u e => by
  rw [upd_ne (ne_of_none e h)]
  exact p x u e
theorem Part.both {G H : Hp} {a : Addr} {o : HO} (p : Part G H) : Part (L2.upd G a o) (L2.upd H a o) := fun x u e => by
  by_cases h : x = a
  · subst h; rw [upd_same] at e ⊢; exact e
  · rw [upd_ne h] at e ⊢; exact p x u e
theorem Part.add {G H : Hp} {a : Addr} {o : HO} (p : Part G H) (h : H a = some o) : Part (L2.upd G a o) H := fun x u e => by
  by_cases hx : x = a
  · subst hx; rw [upd_same] at e; exact h.trans e
  · rw [upd_ne hx] at e; exact p x u e
theorem Part.but {G H H' : Hp} {S : Addr → Prop} (p : Part G H) (b : But S H H') (h : ∀ x, S x → G x = none) : Part G H' := fun x o e => b x o (p x o e) fun s => by
  rw [h x s] at e
  cases e
theorem Part.grow {G H H' : Hp} (p : Part G H) (b : But (fun _ => False) H H') : Part G H' := p.but b fun _ h => h.elim
theorem Part.free {G H : Hp} (p : Part G H) {a : Addr} (h : H a = none) : G a = none := by
  cases e : G a with
  | none => rfl
  | some o => rw [p a o e] at h; cases h
theorem SqL.part {K : PySem.W.Frag} {G H : Hp} {a : Addr} {xs : List V} (h : SqL K G a xs) (p : Part G H) : SqL K H a xs := by
  rcases h with (h | ⟨o, h⟩) | h
  · exact .inl (.inl (p _ _ h))
  · exact .inl (.inr ⟨o, p _ _ h⟩)
  · exact .inr h
theorem SqT.part {K : PySem.W.Frag} {G H : Hp} {a : Addr} {xs : List V} (h : SqT K G a xs) (p : Part G H) : SqT K H a xs := by
  rcases h with (h | ⟨o, h⟩) | h
  · exact .inl (.inl (p _ _ h))
  · exact .inl (.inr ⟨o, p _ _ h⟩)
  · exact .inr h
mutual
theorem Dp.part {K : PySem.W.Frag} {G H : Hp} (p : Part G H) : ∀ (d : PyData) (v : V), Dp K G v d → Dp K H v d
  | .none, _, h => by cases h; exact .non
  | .bool b, _, h => by cases h; exact .bl b
  | .int i, _, h => by cases h; exact .int i
  | .str x, _, h => by cases h; exact .str x
  | .list ds, _, h => by
    cases h with
    | lst a b => exact .lst (SqL.part a p) (DpAll.part p ds _ b)
  | .tuple ds, _, h => by
    cases h with
    | tup a b => exact .tup (SqT.part a p) (DpAll.part p ds _ b)
  | .dict _, _, h => by cases h
theorem DpAll.part {K : PySem.W.Frag} {G H : Hp} (p : Part G H) : ∀ (ds : List PyData) (vs : List V), DpAll K G vs ds → DpAll K H vs ds
  | [], _, h => by cases h; exact .nil
  | d :: ds, _, h => by
    cases h with
    | cons a b => exact .cons (Dp.part p d _ a) (DpAll.part p ds _ b)
end
theorem DpAll.append {K : PySem.W.Frag} {H : Hp} : ∀ {vs ws : List V} {ds es : List PyData}, DpAll K H vs ds → DpAll K H ws es → DpAll K H (vs ++ ws) (ds ++ es)
  | [], _, [], _, _, b => b
  | [], _, _ :: _, _, a, _ => by cases a
  | _ :: _, _, [], _, a, _ => by cases a
  | _ :: vs, _, _ :: ds, _, a, b => by
    cases a with
    | cons h t => exact .cons h (DpAll.append t b)
theorem DpAll.len {K : PySem.W.Frag} {H : Hp} : ∀ {vs : List V} {ds : List PyData}, DpAll K H vs ds → vs.length = ds.length
  | [], [], _ => rfl
  | [], _ :: _, a => by cases a
  | _ :: _, [], a => by cases a
  | _ :: vs, _ :: ds, a => by
    cases a with
    | cons h t => rw [List.length_cons, List.length_cons, DpAll.len t]
theorem DpAll.at {K : PySem.W.Frag} {H : Hp} : ∀ {vs : List V} {ds : List PyData} {i : Nat} {v : V}, DpAll K H vs ds → vs[i]? = some v → ∃ d, ds[i]? = some d ∧ Dp K H v d
  | [], [], i, v, _, e => by simp at e
  | [], _ :: _, _, _, a, _ => by cases a
  | _ :: _, [], _, _, a, _ => by cases a
  | x :: vs, d :: ds, 0, v, a, e => by
    cases a with
    | cons h t =>
      simp at e
      subst e
      exact ⟨d, rfl, h⟩
  | x :: vs, d :: ds, i + 1, v, a, e => by
    cases a with
    | cons h t => exact DpAll.at (i := i) t (by simpa using e)
theorem DpAll.ints {K : PySem.W.Frag} {H : Hp} : ∀ ns : List Int, DpAll K H (ns.map V.int) (ns.map PyData.int)
  | [] => .nil
  | n :: ns => .cons (.int n) (DpAll.ints ns)
/-- data that can be shown and compared: depth, length of the text -/
structure Gd (n s : Nat) (d : PyData) : Prop where
  sh : d.showable = true
  cl : d.canLay0 = true
  dp : d.depth ≤ n
  ln : d.shown.length ≤ s
  so : PyData.strOk d.shown = true
theorem Gd.mono {n m s t : Nat} {d : PyData} (g : Gd n s d) (a : n ≤ m) (b : s ≤ t) : Gd m t d := ⟨g.sh, g.cl, Nat.le_trans g.dp a, Nat.le_trans g.ln b, g.so⟩
theorem so_app {x y : Str} (a : PyData.strOk x = true) (b : PyData.strOk y = true) : PyData.strOk (x ++ y) = true := by
  unfold PyData.strOk at *
  rw [Array.all_eq_true_iff_forall_mem] at *
  intro c hc
  have : c ∈ x.cps ++ y.cps := hc
  rcases Array.mem_append.mp this with h | h
  · exact a c h
  · exact b c h
theorem so_from : ∀ (ts : List Str) (k : Nat) (acc : Str), (∀ t ∈ ts, PyData.strOk t = true) → PyData.strOk acc = true → PyData.strOk (textFrom k acc ts) = true
  | [], _, _, _, a => a
  | t :: ts, k, acc, h, a => so_from ts (k + 1) _ (fun x hx => h x (List.mem_cons_of_mem _ hx)) (so_app (so_app a (by split <;> decide +kernel)) (h t List.mem_cons_self))
theorem so_join : ∀ ts : List Str, (∀ t ∈ ts, PyData.strOk t = true) → PyData.strOk (Str.join ", " ts) = true
  | [], _ => by decide +kernel
  | [x], h => h x List.mem_cons_self
  | x :: y :: r, h => by
    have ih := so_join (y :: r) fun t ht => h t (List.mem_cons_of_mem _ ht)
    show PyData.strOk (x ++ ", " ++ Str.join ", " (y :: r)) = true
    exact so_app (so_app (h x List.mem_cons_self) (by decide +kernel)) ih
theorem Gd.shownAll {n s : Nat} : ∀ {ds : List PyData}, (∀ d ∈ ds, Gd n s d) → PyData.showableAll ds = true ∧ PyData.canLayAll0 ds = true ∧ PyData.depthAll ds ≤ n ∧ ((PyData.shownAll ds).map (·.length)).sum ≤ ds.length * s ∧ (∀ t ∈ PyData.shownAll ds, PyData.strOk t = true) ∧ (PyData.shownAll ds).length = ds.length
  | [], _ => ⟨rfl, rfl, Nat.zero_le _, by simp [PyData.shownAll], by simp [PyData.shownAll], by simp [PyData.shownAll]⟩
  | d :: ds, h => by
    obtain ⟨h1, h2, h3, h4, h5, h6⟩ := Gd.shownAll (ds := ds) fun x hx => h x (List.mem_cons_of_mem _ hx)
    have g := h d List.mem_cons_self
    have ln := g.ln
    have dp := g.dp
    refine ⟨?_, ?_, ?_, ?_, ?_, ?_⟩
    · rw [PyData.showableAll, g.sh, h1]; rfl
    · rw [PyData.canLayAll0, g.cl, h2]; rfl
    · rw [PyData.depthAll]; omega
    · rw [PyData.shownAll, List.map_cons, List.sum_cons, List.length_cons, Nat.succ_mul]; omega
    · intro t ht
      rw [PyData.shownAll] at ht
      rcases List.mem_cons.mp ht with e | e
      · rw [e]; exact g.so
      · exact h5 t e
    · rw [PyData.shownAll, List.length_cons, List.length_cons, h6]
theorem Gd.list {n s : Nat} {ds : List PyData} (h : ∀ d ∈ ds, Gd n s d) : Gd (n + 1) (ds.length * s + 2 * ds.length + 3) (.list ds) := by
  obtain ⟨h1, h2, h3, h4, h5, h6⟩ := Gd.shownAll h
  refine ⟨by rw [PyData.showable]; exact h1, by rw [PyData.canLay0]; exact h2, by rw [PyData.depth]; omega, ?_, ?_⟩
  · rw [PyData.shown]
    have := listText_len_le (PyData.shownAll ds)
    omega
  · rw [PyData.shown]
    exact so_app (so_from _ _ _ h5 (by decide +kernel)) (by decide +kernel)
theorem Gd.tuple {n s : Nat} {ds : List PyData} (h : ∀ d ∈ ds, Gd n s d) : Gd (n + 1) (ds.length * s + 2 * ds.length + 3) (.tuple ds) := by
  obtain ⟨h1, h2, h3, h4, h5, h6⟩ := Gd.shownAll h
  refine ⟨by rw [PyData.showable]; exact h1, by rw [PyData.canLay0]; exact h2, by rw [PyData.depth]; omega, ?_, ?_⟩
  · rw [PyData.shown]
    have := tupleText_len_le (PyData.shownAll ds)
    omega
  · rw [PyData.shown]
    exact so_app (so_app (by decide +kernel) (so_join _ h5)) (by split <;> decide +kernel)
theorem Gd.shaped {n s : Nat} {d : PyData} (g : Gd n s d) (h : n ≤ 64) : SeqAt.shaped d = true := Bool.and_eq_true_iff.mpr ⟨g.cl, decide_eq_true (Nat.le_trans g.dp h)⟩
theorem Gd.noDict {n s : Nat} {d : PyData} (g : Gd n s d) : d.hasDict = false := PyData.hasDict_of_canLay d g.cl
/-- a leaf, by running -/
def leafOk (d : PyData) : Bool := d.showable && d.canLay0 && decide (d.depth ≤ 0) && decide (d.shown.length ≤ 45) && PyData.strOk d.shown
theorem Gd.leaf {d : PyData} {n s : Nat} (h : leafOk d = true) (hs : 45 ≤ s) : Gd n s d := by
  unfold leafOk at h
  simp only [Bool.and_eq_true, decide_eq_true_eq] at h
  obtain ⟨⟨⟨⟨h1, h2⟩, h3⟩, h4⟩, h5⟩ := h
  exact ⟨h1, h2, Nat.le_trans h3 (Nat.zero_le _), Nat.le_trans h4 hs, h5⟩
/-- how long a text may be, one more level of at most three -/
def wide : Nat → Nat → Nat
  | 0, s => s
  | n + 1, s => 3 * wide n s + 9
theorem wide_le (s : Nat) : ∀ n, s ≤ wide n s
  | 0 => Nat.le_refl _
  | n + 1 => by have := wide_le s n; show s ≤ 3 * wide n s + 9; omega
/-! the type of data -/
def tyn : PyData → String
  | .none => "NoneType"
  | .bool _ => "bool"
  | .int _ => "int"
  | .str _ => "str"
  | .list _ => "list"
  | .tuple _ => "tuple"
  | .dict _ => "dict"
theorem ty_d {K : PySem.W.Frag} {H : Hp} {x : V} {d : PyData} (h : Dp K H x d) : TyX K H x (.type (tyn d)) := by
  cases h with
  | non => exact .base .non
  | bl b => exact .base (.bl b)
  | int i => exact .base (.int i)
  | str s => exact .base (.str s)
  | lst a _ =>
    rcases a with (a | ⟨o, a⟩) | ⟨o, its, n, a, c, _⟩
    · exact .base (.lst a)
    · exact .base (.frz a)
    · exact .kList a c
  | tup a _ =>
    rcases a with (a | ⟨o, a⟩) | ⟨o, its, n, a, c, _⟩
    · exact .base (.tup a)
    · exact .fTuple a
    · exact .kTuple a c
def isNum : PyData → Bool
  | .int _ => true
  | _ => false
instance (n : Int) : Decidable (Fits n) := inferInstanceAs (Decidable (_ ∧ _))
def isVal : PyData → Bool
  | .int n => decide (Fits n)
  | _ => false
def spIsNum (K : PySem.W.Frag) : Sp := fun vs H Q _ => ∃ (x : V) (d : PyData), vs = [x] ∧ Dp K H x d ∧ Q (.bl (isNum d)) H
def spIsVal (K : PySem.W.Frag) : Sp := fun vs H Q _ => ∃ (x : V) (d : PyData), vs = [x] ∧ Dp K H x d ∧ Q (.bl (isVal d)) H
/-! isinstance(x, T), both answers -/
def isInt : PyData → Bool
  | .bool _ => true
  | .int _ => true
  | _ => false
theorem kit_isInt {K : PySem.W.Frag} {d : PyData} (h : ∀ kvs, d ≠ .dict kvs) : PySem.W.kitOne K (.type (tyn d)) (.type "int") = some (isInt d) := by
  cases d with
  | dict kvs => exact absurd rfl (h kvs)
  | none => exact kit_ty (a := "NoneType") (r := false) (by decide +kernel)
  | bool b => exact kit_ty (a := "bool") (r := true) (by decide +kernel)
  | int i => exact kit_ty (a := "int") (r := true) (by decide +kernel)
  | str z => exact kit_ty (a := "str") (r := false) (by decide +kernel)
  | list xs => exact kit_ty (a := "list") (r := false) (by decide +kernel)
  | tuple xs => exact kit_ty (a := "tuple") (r := false) (by decide +kernel)
def isBool : PyData → Bool
  | .bool _ => true
  | _ => false
theorem kit_isBool {K : PySem.W.Frag} {d : PyData} (h : ∀ kvs, d ≠ .dict kvs) : PySem.W.kitOne K (.type (tyn d)) (.type "bool") = some (isBool d) := by
  cases d with
  | dict kvs => exact absurd rfl (h kvs)
  | none => exact kit_ty (a := "NoneType") (r := false) (by decide +kernel)
  | bool b => exact kit_ty (a := "bool") (r := true) (by decide +kernel)
  | int i => exact kit_ty (a := "int") (r := false) (by decide +kernel)
  | str z => exact kit_ty (a := "str") (r := false) (by decide +kernel)
  | list xs => exact kit_ty (a := "list") (r := false) (by decide +kernel)
  | tuple xs => exact kit_ty (a := "tuple") (r := false) (by decide +kernel)
def isStr : PyData → Bool
  | .str _ => true
  | _ => false
theorem kit_isStr {K : PySem.W.Frag} {d : PyData} (h : ∀ kvs, d ≠ .dict kvs) : PySem.W.kitOne K (.type (tyn d)) (.type "str") = some (isStr d) := by
  cases d with
  | dict kvs => exact absurd rfl (h kvs)
  | none => exact kit_ty (a := "NoneType") (r := false) (by decide +kernel)
  | bool b => exact kit_ty (a := "bool") (r := false) (by decide +kernel)
  | int i => exact kit_ty (a := "int") (r := false) (by decide +kernel)
  | str z => exact kit_ty (a := "str") (r := true) (by decide +kernel)
  | list xs => exact kit_ty (a := "list") (r := false) (by decide +kernel)
  | tuple xs => exact kit_ty (a := "tuple") (r := false) (by decide +kernel)
def isTup : PyData → Bool
  | .tuple _ => true
  | _ => false
theorem kit_isTup {K : PySem.W.Frag} {d : PyData} (h : ∀ kvs, d ≠ .dict kvs) : PySem.W.kitOne K (.type (tyn d)) (.type "tuple") = some (isTup d) := by
  cases d with
  | dict kvs => exact absurd rfl (h kvs)
  | none => exact kit_ty (a := "NoneType") (r := false) (by decide +kernel)
  | bool b => exact kit_ty (a := "bool") (r := false) (by decide +kernel)
  | int i => exact kit_ty (a := "int") (r := false) (by decide +kernel)
  | str z => exact kit_ty (a := "str") (r := false) (by decide +kernel)
  | list xs => exact kit_ty (a := "list") (r := false) (by decide +kernel)
  | tuple xs => exact kit_ty (a := "tuple") (r := true) (by decide +kernel)
def isLst : PyData → Bool
  | .list _ => true
  | _ => false
theorem kit_isLst {K : PySem.W.Frag} {d : PyData} (h : ∀ kvs, d ≠ .dict kvs) : PySem.W.kitOne K (.type (tyn d)) (.type "list") = some (isLst d) := by
  cases d with
  | dict kvs => exact absurd rfl (h kvs)
  | none => exact kit_ty (a := "NoneType") (r := false) (by decide +kernel)
  | bool b => exact kit_ty (a := "bool") (r := false) (by decide +kernel)
  | int i => exact kit_ty (a := "int") (r := false) (by decide +kernel)
  | str z => exact kit_ty (a := "str") (r := false) (by decide +kernel)
  | list xs => exact kit_ty (a := "list") (r := true) (by decide +kernel)
  | tuple xs => exact kit_ty (a := "tuple") (r := false) (by decide +kernel)
theorem Dp.nd {K : PySem.W.Frag} {H : Hp} {x : V} {d : PyData} (h : Dp K H x d) : ∀ kvs, d ≠ .dict kvs := fun kvs e => by
  subst e
  cases h
/-- one of some things -/
def spOf (K : PySem.W.Frag) : Sp := fun vs H Q _ => ∃ (a l : Addr) (xs : List V), vs = [.ref a, .ref l] ∧ SrcAt H a ∧ SqL K H l xs ∧ a ≠ l ∧ 0 < xs.length ∧ xs.length ≤ 1000 ∧ ∀ (i : Nat) (v : V) (c st n : Int), xs[i]? = some v → Q v (upd H a (src c st n))
/-- any value -/
def spAny (K : PySem.W.Frag) (dep : Nat) : Sp := fun vs H Q _ => ∃ (a l : Addr) (xs : List V) (ds : List PyData) (G : Hp) (n s : Nat), vs = [.ref a, .ref l, .int dep] ∧ SrcAt H a ∧ SqL K H l xs ∧ a ≠ l ∧ Part G H ∧ G a = none ∧ DpAll K G xs ds ∧ (∀ d ∈ ds, Gd n s d) ∧ 45 ≤ s ∧ 0 < xs.length ∧ xs.length ≤ 1000 ∧
  ∀ (v : V) (d : PyData) (G' H' : Hp), But (· = a) H H' → SrcAt H' a → Part G G' → Part G' H' → (∀ b, H b ≠ none → G b = none → G' b = none) → Dp K G' v d → Gd (n + dep) (wide dep s) d → Q v H'
theorem SqL.but {K : PySem.W.Frag} {S : Addr → Prop} {H H' : Hp} {a : Addr} {xs : List V} (h : SqL K H a xs) (b : But S H H') (n : ¬ S a) : SqL K H' a xs := by
  rcases h with (h | ⟨o, h⟩) | h
  · exact .inl (.inl (b _ _ h n))
  · exact .inl (.inr ⟨o, b _ _ h n⟩)
  · exact .inr h
end L2.G42

set_option Elab.async false
set_option linter.all false
set_option maxRecDepth 100000
set_option maxHeartbeats 4000000
namespace L2.G42
open PySem PySem.Spec
/-! lists of ints, lists of such, compared -/
def dI (xs : List Int) : PyData := .list (xs.map PyData.int)
def dL (xss : List (List Int)) : PyData := .list (xss.map dI)
theorem dpI {K : PySem.W.Frag} {H : Hp} : ∀ xs : List Int, DpAll K H (xs.map V.int) (xs.map PyData.int)
  | [] => .nil
  | x :: xs => .cons (.int x) (dpI xs)
theorem canI : ∀ xs : List Int, PyData.canLayAll0 (xs.map PyData.int) = true
  | [] => by simp [PyData.canLayAll0]
  | x :: xs => by
    rw [List.map_cons, PyData.canLayAll0, canI xs]
    simp [PyData.canLay0]
theorem depI : ∀ xs : List Int, PyData.depthAll (xs.map PyData.int) = 0
  | [] => by simp [PyData.depthAll]
  | x :: xs => by
    rw [List.map_cons, PyData.depthAll, depI xs]
    simp [PyData.depth]
theorem canDI (xs : List Int) : PyData.canLay0 (dI xs) = true := by
  unfold dI
  rw [PyData.canLay0]
  exact canI xs
theorem depDI (xs : List Int) : PyData.depth (dI xs) = 1 := by
  unfold dI
  rw [PyData.depth, depI xs]
theorem canL : ∀ xss : List (List Int), PyData.canLayAll0 (xss.map dI) = true
  | [] => by simp [PyData.canLayAll0]
  | x :: xs => by
    rw [List.map_cons, PyData.canLayAll0, canL xs, canDI]
    rfl
theorem depL : ∀ xss : List (List Int), PyData.depthAll (xss.map dI) ≤ 1
  | [] => by simp [PyData.depthAll]
  | x :: xs => by
    rw [List.map_cons, PyData.depthAll, depDI]
    have := depL xs
    omega
theorem shI (xs : List Int) : SeqAt.shaped (dI xs) = true := by
  unfold SeqAt.shaped
  rw [canDI, depDI]
  rfl
theorem shL (xss : List (List Int)) : SeqAt.shaped (dL xss) = true := by
  have h1 : PyData.canLay0 (dL xss) = true := by
    unfold dL
    rw [PyData.canLay0]
    exact canL xss
  have h2 : PyData.depth (dL xss) ≤ 64 := by
    unfold dL
    rw [PyData.depth]
    have := depL xss
    omega
  unfold SeqAt.shaped
  rw [h1, decide_eq_true h2]
  rfl
/-- two lists of the same ints -/
theorem ne_ints {K : PySem.W.Frag} {H : Hp} {Q : VK} {a b : Addr} {xs : List Int} (ha : SqL K H a (xs.map V.int)) (hb : SqL K H b (xs.map V.int)) (k : Q (.bl false) H) : rNeD K (.ref a) (.ref b) H Q := by
  refine ⟨dI xs, dI xs, .lst ha (dpI xs), .lst hb (dpI xs), shI xs, shI xs, ?_⟩
  rw [SeqAt.eqv_refl _ (canDI xs)]
  exact k
theorem eq_ints {K : PySem.W.Frag} {H : Hp} {Q : VK} {a b : Addr} {xs : List Int} (ha : SqL K H a (xs.map V.int)) (hb : SqL K H b (xs.map V.int)) (k : Q (.bl true) H) : rEqD K (.ref a) (.ref b) H Q := by
  refine ⟨dI xs, dI xs, .lst ha (dpI xs), .lst hb (dpI xs), shI xs, shI xs, ?_⟩
  rw [SeqAt.eqv_refl _ (canDI xs)]
  exact k
/-- the same data are not unequal -/
theorem ne_same {K : PySem.W.Frag} {H : Hp} {Q : VK} {x y : V} {d : PyData} (hx : Dp K H x d) (hy : Dp K H y d) (sh : SeqAt.shaped d = true) (k : Q (.bl false) H) : rNeD K x y H Q := by
  refine ⟨d, d, hx, hy, sh, sh, ?_⟩
  rw [SeqAt.eqv_refl _ (SeqAt.canLay_of_shaped sh)]
  exact k
/-- an own special method, as an operator sees it -/
structure Own1 (P : Program) (w : World) (K : PySem.W.Frag) (mg : Str → Option Value) (base : Heap) (k : Nat) (C : Addr) (m : Str) (sp : Sp) : Prop where
  ex : ∃ (f : Addr) (fd : FuncData) (ps : List Str), FnOk P w K mg base CX0 k f fd ps sp ∧ PySem.W.findIn K (.ref C) m = some (some (.ref f)) ∧ PySem.W.isFn K (.ref f) = true ∧ Binds K fd ps []
theorem cr_lenO {X : Cx} {k j : Nat} {C : Addr} {sp : Sp} (c : Own1 X.prog X.w X.K X.mg X.base k C "__len__" sp) (hr : Room j X.A) (hk : k + 1 ≤ j) : CallR X (.builtin "len") (rLenI C sp E0) :=
  let ⟨_, _, _, F, h1, h2, h3⟩ := c.ex
  call_lenI F h1 h2 h3 (hr.mono hk) pass0
theorem op_inO {X : Cx} {k j : Nat} {C : Addr} {sp : Sp} (c : Own1 X.prog X.w X.K X.mg X.base k C "__contains__" sp) (hr : Room j X.A) (hk : k ≤ j) : OpR X (compareOp .In) (rInI C sp E0 false) :=
  let ⟨_, _, _, F, h1, h2, h3⟩ := c.ex
  op_inI F h1 h2 h3 (hr.mono hk) pass0
/-- a rising list within another one is no longer -/
theorem nd_len : ∀ {l m : List Int}, l.Nodup → (∀ x ∈ l, x ∈ m) → l.length ≤ m.length
  | [], _, _, _ => Nat.zero_le _
  | x :: l, m, nd, h => by
    obtain ⟨n1, n2⟩ := List.nodup_cons.mp nd
    have hx : x ∈ m := h x List.mem_cons_self
    have := nd_len (l := l) (m := m.erase x) n2 fun y hy => (List.mem_erase_of_ne (fun e : y = x => n1 (e ▸ hy))).mpr (h y (List.mem_cons_of_mem _ hy))
    rw [List.length_erase_of_mem hx] at this
    have : 0 < m.length := List.length_pos_of_mem hx
    rw [List.length_cons]
    omega
theorem up_nd {l : List Int} (h : l.Pairwise (· < ·)) : l.Nodup := h.imp fun a => Int.ne_of_lt a
theorem ex_rise (ks : List Int) : ∃ xs : List Int, xs.Pairwise (· < ·) ∧ ∀ x, x ∈ ks ↔ x ∈ xs := by
  induction ks with
  | nil => exact ⟨[], .nil, by simp⟩
  | cons k ks ih =>
    obtain ⟨xs, h1, h2⟩ := ih
    by_cases hk : k ∈ xs
    · refine ⟨xs, h1, fun x => ?_⟩
      rw [List.mem_cons, h2 x]
      exact ⟨fun h => h.elim (fun e => e ▸ hk) id, .inr⟩
    · refine ⟨xs.filter (fun x => decide (x < k)) ++ k :: xs.filter (fun x => decide (k < x)), ?_, fun x => ?_⟩
      · refine List.pairwise_append.mpr ⟨h1.filter _, List.pairwise_cons.mpr ⟨fun y hy => ?_, h1.filter _⟩, fun y hy z hz => ?_⟩
        · simpa using (List.mem_filter.mp hy).2
        · have a : y < k := by simpa using (List.mem_filter.mp hy).2
          rcases List.mem_cons.mp hz with e | e
          · omega
          · have b : k < z := by simpa using (List.mem_filter.mp e).2
            omega
      · rw [List.mem_cons, List.mem_append, List.mem_cons, List.mem_filter, List.mem_filter, h2 x]
        simp only [decide_eq_true_eq]
        constructor
        · rintro (e | e)
          · exact .inr (.inl e)
          · rcases Int.lt_trichotomy x k with l | l | l
            · exact .inl ⟨e, l⟩
            · exact .inr (.inl l)
            · exact .inr (.inr ⟨e, l⟩)
        · rintro (⟨e, _⟩ | e | ⟨e, _⟩)
          · exact .inr e
          · exact .inl e
          · exact .inr e
/-! bags -/
/-- a bag at p: its dict at d holds ks -/
structure BagAt (C : Addr) (H : Hp) (p d : Addr) (sh : Bool) (ks : List Int) : Prop where
  ob : ∃ dx, H p = some (.ins C dx (bfs (.ref d) (.bl sh)))
  dc : H d = some (.dK (kv ks))
/-- the class -/
structure BagC (K : PySem.W.Frag) (C : Addr) : Prop where
  cl : Cls K C
  nI : NoAttr K C "inside"
  nS : NoAttr K C "shared"
theorem BagAt.same {C : Addr} {S : Addr → Prop} {H H' : Hp} {p d : Addr} {sh : Bool} {ks : List Int} (b : BagAt C H p d sh ks) (e : But S H H') (hp : ¬ S p) (hd : ¬ S d) : BagAt C H' p d sh ks := by
  obtain ⟨⟨dx, ob⟩, dc⟩ := b
  exact ⟨⟨dx, e _ _ ob hp⟩, e _ _ dc hd⟩
theorem BagAt.grow {C : Addr} {H H' : Hp} {p d : Addr} {sh : Bool} {ks : List Int} (b : BagAt C H p d sh ks) (e : But (fun _ => False) H H') : BagAt C H' p d sh ks := b.same e id id
/-- what a bag has, asked with any value -/
def hasV (ks : List Int) : PyData → Bool
  | .int n => decide (Fits n) && decide (n ∈ ks)
  | _ => false
theorem ints_of {K : PySem.W.Frag} {H : Hp} : ∀ {xs : List V} {ds : List PyData}, DpAll K H xs ds → (∀ d ∈ ds, isVal d = true) → ∃ ns : List Int, xs = ns.map V.int ∧ ds = ns.map PyData.int ∧ ∀ n ∈ ns, Fits n
  | [], [], _, _ => ⟨[], rfl, rfl, by simp⟩
  | [], _ :: _, h, _ => by cases h
  | _ :: _, [], h, _ => by cases h
  | x :: xs, d :: ds, h, hv => by
    cases h with
    | cons h1 h2 =>
      obtain ⟨ns, e1, e2, e3⟩ := ints_of h2 fun e he => hv e (List.mem_cons_of_mem _ he)
      have v := hv d List.mem_cons_self
      cases h1 with
      | int n =>
        refine ⟨n :: ns, by rw [e1]; rfl, by rw [e2]; rfl, fun m hm => ?_⟩
        rcases List.mem_cons.mp hm with e | e
        · rw [e]; exact of_decide_eq_true v
        · exact e3 m e
      | _ => cases v
def spInit (K : PySem.W.Frag) (C B : Addr) : Sp := fun vs H Q E => ∃ (p dx a : Addr) (xs : List V) (ds : List PyData) (sh : Bool), vs = [.ref p, .ref a, .bl sh] ∧ H p = some (.ins C dx []) ∧ (SqL K H a xs ∨ SqT K H a xs) ∧ DpAll K H xs ds ∧ xs.length ≤ 1000 ∧
  (∀ (i : Nat) (x : V) (d : PyData), xs[i]? = some x → ds[i]? = some d → isVal d = false → (∀ (j : Nat) (e : PyData), j < i → ds[j]? = some e → isVal e = true) → ∀ e, H e = none → E (.ref B) (some e) (upd H e (.xd [("value", x)]))) ∧
  ∀ ns : List Int, xs = ns.map V.int → (∀ n ∈ ns, Fits n) → ds = ns.map PyData.int → ∀ (d : Addr) (H' : Hp), H d = none → BagAt C H' p d sh (insAll [] ns) → But (· = p) H H' → Q .non H'
def spAdd (K : PySem.W.Frag) (C B : Addr) : Sp := fun vs H Q E => ∃ (p d : Addr) (sh : Bool) (ks : List Int) (x : V) (e : PyData), vs = [.ref p, x] ∧ BagAt C H p d sh ks ∧ Dp K H x e ∧ ks.length ≤ 10000 ∧
  (isVal e = false → ∀ q, H q = none → E (.ref B) (some q) (upd H q (.xd [("value", x)]))) ∧ ∀ n : Int, x = .int n → Fits n → Q .non (upd H d (.dK (kv (ins ks n))))
def spHas (K : PySem.W.Frag) (C : Addr) : Sp := fun vs H Q _ => ∃ (p d : Addr) (sh : Bool) (ks : List Int) (x : V) (e : PyData), vs = [.ref p, x] ∧ BagAt C H p d sh ks ∧ Dp K H x e ∧ Q (.bl (hasV ks e)) H
def spLen (C : Addr) : Sp := fun vs H Q _ => ∃ (p d : Addr) (sh : Bool) (ks : List Int), vs = [.ref p] ∧ BagAt C H p d sh ks ∧ Q (.int ks.length) H
def spTold (C : Addr) : Sp := fun vs H Q _ => ∃ (p d : Addr) (sh : Bool) (ks xs : List Int), vs = [.ref p] ∧ BagAt C H p d sh ks ∧ ks.Nodup ∧ xs.Pairwise (· < ·) ∧ (∀ x, x ∈ ks ↔ x ∈ xs) ∧
  ∀ (q : Addr) (H' : Hp), H q = none → H' q = some (.lst (xs.map V.int)) → But (fun _ => False) H H' → Q (.ref q) H'
def spClear (C : Addr) : Sp := fun vs H Q _ => ∃ (p d : Addr) (sh : Bool) (ks : List Int), vs = [.ref p] ∧ BagAt C H p d sh ks ∧ ∀ (d' : Addr) (H' : Hp), H d' = none → BagAt C H' p d' sh [] → But (· = p) H H' → Q .non H'
def spForm : Sp := fun vs H Q _ => ∃ p : Addr, vs = [.ref p] ∧ Q (.str "*") H
/-- a new bag's promise: at x, its dict at d, holding ks -/
def RetB (C : Addr) (sh : Bool) (ks : List Int) (H : Hp) (Q : VK) : Prop := ∀ (x d : Addr) (H' : Hp), H x = none → H d = none → BagAt C H' x d sh ks → But (fun _ => False) H H' → Q (.ref x) H'
theorem RetB.back {C : Addr} {sh : Bool} {ks : List Int} {H H1 : Hp} {Q : VK} (g : But (fun _ => False) H H1) (k : RetB C sh ks H Q) : RetB C sh ks H1 Q := fun x d H' hx hd B bt => k x d H' (g.free hx) (g.free hd) B (g.trans bt)
theorem make_bag {K : PySem.W.Frag} {C B : Addr} {H : Hp} {Q : VK} {E : XK} {l : Addr} {ns : List Int} {sh : Bool} (hl : SqL K H l (ns.map V.int) ∨ SqT K H l (ns.map V.int)) (fit : ∀ n ∈ ns, Fits n) (few : ns.length ≤ 1000) (k : RetB C sh (insAll [] ns) H Q) (x dx : Addr) (hx : H x = none) (hdx : H dx = none) (ne : dx ≠ x) :
    spInit K C B (.ref x :: ([.ref l] ++ [.bl sh])) (upd (upd H dx (.own x)) x (.ins C dx [])) (fun v H2 => v = .non ∧ Q (.ref x) H2) E := by
  have g : But (fun _ => False) H (upd (upd H dx (.own x)) x (.ins C dx [])) := But.fresh (But.new hdx) hx
  have pt : Part H (upd (upd H dx (.own x)) x (.ins C dx [])) := fun b o e => g b o e id
  refine ⟨x, dx, l, ns.map V.int, ns.map PyData.int, sh, rfl, upd_same, hl.elim (fun h => .inl (SqL.part h pt)) (fun h => .inr (SqT.part h pt)), DpAll.ints ns, by rw [List.length_map]; exact few, fun i y d hy hd hv => ?_, fun ms e1 hf e2 d H' hd BA bt => ⟨rfl, ?_⟩⟩
  · rw [List.getElem?_map] at hd
    obtain ⟨n, hn, rfl⟩ := Option.map_eq_some_iff.mp hd
    rw [show isVal (.int n) = true from decide_eq_true (fit n (List.mem_of_getElem? hn))] at hv
    cases hv
  · obtain rfl := map_int_inj e1
    exact k x d H' hx (g.free hd) BA fun b o hb _ => bt b o (g b o hb id) (ne_of_none hb hx)
end L2.G42

set_option Elab.async false
set_option linter.all false
set_option maxRecDepth 100000
set_option maxHeartbeats 4000000
namespace L2.G42
open PySem PySem.Spec
/-! texts as lists of signs -/
abbrev tx (l : List Nat) : Str := ⟨l.toArray⟩
def letter (c : Nat) : Bool := decide (97 ≤ c) && decide (c ≤ 122)
def lettersS : Str := "abcdefghijklmnopqrstuvwxyz"
theorem letters_are : lettersS.cps.toList = (List.range 26).map (97 + ·) := by decide +kernel
theorem letters_mem (c : Nat) : decide (c ∈ lettersS.cps.toList) = letter c := by
  rw [letters_are]
  unfold letter
  rw [Bool.eq_iff_iff, decide_eq_true_eq, Bool.and_eq_true, decide_eq_true_eq, decide_eq_true_eq, List.mem_map]
  constructor
  · rintro ⟨i, hi, rfl⟩
    have := List.mem_range.mp hi
    omega
  · intro h
    exact ⟨c - 97, List.mem_range.mpr (by omega), by omega⟩
/-! tokens -/
theorem dw_le (p : Nat → Bool) : ∀ l : List Nat, (l.dropWhile p).length ≤ l.length
  | [] => Nat.le_refl _
  | c :: l => by
    rw [List.dropWhile_cons]
    split
    · exact Nat.le_succ_of_le (dw_le p l)
    · exact Nat.le_refl _
/-- the tokens of a text whose first sign stands at n: each with its place -/
def toks (n : Nat) : List Nat → List (Nat × List Nat)
  | [] => []
  | c :: r => if letter c = true then (n, c :: r.takeWhile letter) :: toks (n + 1 + (r.takeWhile letter).length) (r.dropWhile letter)
    else if c = 32 then toks (n + 1) r else (n, [c]) :: toks (n + 1) r
termination_by l => l.length
decreasing_by
  · have := dw_le letter r
    simp only [List.length_cons]
    omega
  · simp
  · simp
theorem tw_at : ∀ (k : Nat) {l : List Nat}, (∀ i, i < k → ∃ c, l[i]? = some c ∧ letter c = true) → (∀ c, l[k]? = some c → letter c = false) → l.takeWhile letter = l.take k ∧ l.dropWhile letter = l.drop k
  | 0, [], _, _ => ⟨rfl, rfl⟩
  | 0, c :: l, _, h => by
    have : letter c = false := h c rfl
    rw [List.takeWhile_cons, List.dropWhile_cons, this]
    exact ⟨rfl, rfl⟩
  | k + 1, [], h, _ => by
    obtain ⟨c, e, _⟩ := h 0 (by omega)
    cases e
  | k + 1, c :: l, h, h2 => by
    obtain ⟨c', e, hc⟩ := h 0 (by omega)
    obtain rfl := Option.some.inj e
    obtain ⟨a, b⟩ := tw_at k (l := l) (fun i hi => by simpa using h (i + 1) (by omega)) (fun c hc => h2 c (by simpa using hc))
    rw [List.takeWhile_cons, List.dropWhile_cons, hc, a, b]
    exact ⟨rfl, rfl⟩
/-- a list of tokens in the heap -/
def TokAt (H : Hp) (F : Addr) (ts : List (Nat × List Nat)) : Prop := ∃ rs : List Addr, H F = some (.lst (rs.map V.ref)) ∧ rs.length = ts.length ∧ ∀ (i : Nat) (r : Addr) (t : Nat × List Nat), rs[i]? = some r → ts[i]? = some t → H r = some (.tup [.int t.1, .str (tx t.2)])
theorem TokAt.grow {H H' : Hp} {F : Addr} {ts : List (Nat × List Nat)} (h : TokAt H F ts) (g : But (fun _ => False) H H') : TokAt H' F ts := by
  obtain ⟨rs, h1, h2, h3⟩ := h
  exact ⟨rs, g _ _ h1 id, h2, fun i r t a b => g _ _ (h3 i r t a b) id⟩
def spToks : Sp := fun vs H Q _ => ∃ z : Str, vs = [.str z] ∧ z.length ≤ 90000 ∧ ∀ (F : Addr) (H' : Hp), H F = none → TokAt H' F (toks 0 z.cps.toList) → But (fun _ => False) H H' → Q (.ref F) H'
theorem cut_mid (z : Str) (n e : Nat) (h1 : n ≤ e) (h2 : e ≤ z.cps.toList.length) : cutS z (some (n : Int)) (some (e : Int)) = tx ((z.cps.toList.drop n).take (e - n)) := by
  have hz : z.length = z.cps.toList.length := by
    show z.cps.size = _
    simp
  unfold cutS HT.sIx
  rw [hz]
  simp only [show ¬ ((n : Int) < 0) by omega, show ¬ ((e : Int) < 0) by omega, if_false, Int.toNat_natCast]
  rw [Nat.min_eq_left (by omega : n ≤ z.cps.toList.length), Nat.min_eq_left h2]
end L2.G42

set_option Elab.async false
set_option linter.all false
set_option maxRecDepth 100000
set_option maxHeartbeats 4000000
namespace L2.G42
open PySem PySem.Spec
open _root_.ClX (CRead CVal)
/-! what may be a key -/
def reserved : List Str := ["add", "back", "clear", "copy", "def", "either", "end", "for", "in", "kept", "like", "live", "new", "or", "repeat", "root", "show", "sync", "use"]
def isKey (x : Str) : Bool := (decide (1 ≤ x.length) && decide (x.length ≤ 8)) && (!reserved.contains x && x.cps.toList.all letter)
def spIsKey : Sp := fun vs H Q _ => ∃ x : Str, vs = [.str x] ∧ x.length ≤ 90000 ∧ ∀ H' : Hp, But (fun _ => False) H H' → Q (.bl (isKey x)) H'
theorem inV_str (x : Str) (ys : List Str) : inV (.str x) (ys.map V.str) = ys.contains x := by
  unfold inV
  rw [List.any_map, Bool.eq_iff_iff, List.any_eq_true, List.contains_iff_mem]
  constructor
  · rintro ⟨y, hy, e⟩
    have : y = x := by simpa [eqV] using e
    exact this ▸ hy
  · intro h
    exact ⟨x, h, by simp [eqV]⟩
/-- what the written part says of the names of books -/
structure BkN (K : PySem.W.Frag) (mg : Str → Option Value) : Prop where
  letters : ∃ t, mg "LETTERS" = some (.str lettersS t)
  res : ∃ a, mg "RESERVED" = some (.ref a) ∧ ∀ H : Hp, SqT K H a (reserved.map V.str)
  kinds : ∃ a, mg "BAG_KINDS" = some (.ref a) ∧ ∀ H : Hp, SqT K H a [V.str "*", V.str "!"]
/-! the reader of a book, as a plain function -/
structure Rd where
  toks : List (Nat × List Nat)
  size : Nat
  at_ : Nat
  marks : List (List Key × V)
  nt : Nat
  nb : Nat
def Rd.word (s : Rd) : Str := match s.toks[s.at_]? with
  | some t => tx t.2
  | none => ""
/-- where it refuses -/
def Rd.pos (s : Rd) : Nat := match s.toks[s.at_]? with
  | some t => t.1
  | none => s.size
def Rd.step (s : Rd) : Rd := { s with at_ := s.at_ + 1 }
def rdTake (x : Str) (s : Rd) : Except Nat Rd := if s.word = x then .ok s.step else .error s.pos
def modes : List Str := ["live", "copy", "kept"]
def kinds : List Str := ["*", "!"]
def rdMore (ent : Rd → Except Nat Rd) : Nat → Rd → Except Nat Rd
  | 0, s => if s.word = "," then .error s.pos else .ok s
  | k + 1, s => if s.word = "," then (ent s.step).bind (rdMore ent k) else .ok s
def rdEntry (tab : List Key → Rd → Except Nat Rd) (place : List Key) (s : Rd) : Except Nat Rd :=
  if isKey s.word = false ∨ (valV s.marks (place ++ [Sum.inr s.word])).isSome = true then .error s.pos
  else (rdTake ":" s.step).bind fun s2 => if kinds.contains s2.word = false then tab (place ++ [Sum.inr s.word]) s2
    else if s2.nb = 6 then .error s2.pos else .ok { s2.step with nb := s2.nb + 1, marks := putK s2.marks (place ++ [Sum.inr s.word]) (.str s2.word) }
/-- a table with n levels left -/
def rdTable : Nat → List Key → Rd → Except Nat Rd
  | 0, _, s => .error s.pos
  | n + 1, place, s => if modes.contains s.word = false ∨ s.nt = 6 then .error s.pos
    else (rdTake "{" { s.step with nt := s.nt + 1, marks := putK s.marks place (.str s.word) }).bind fun s2 =>
      (rdEntry (rdTable n) place s2).bind fun s3 => (rdMore (rdEntry (rdTable n) place) 2 s3).bind (rdTake "}")
def rdWhole (s : Rd) : Except Nat Rd := (rdTable 4 [] s).bind fun s2 => if s2.at_ < s2.toks.length then .error s2.pos else .ok s2
def rdStart (z : Str) : Rd := ⟨toks 0 z.cps.toList, z.length, 0, [], 0, 0⟩
/-! the attributes of a reader -/
def rfs (F D : Addr) (s : Rd) : List (Str × V) := [(("tokens" : Str), (.ref F)), (("size" : Str), (.int s.size)), (("next_at" : Str), (.int s.at_)), (("marks" : Str), (.ref D)), (("many_tables" : Str), (.int s.nt)), (("many_bags" : Str), (.int s.nb))]
theorem rn_0_1 : (("tokens" : Str) == "size") = false := by decide +kernel
theorem rm_0_1 : ¬ (("tokens" : Str) = "size") := by decide +kernel
theorem rn_0_2 : (("tokens" : Str) == "next_at") = false := by decide +kernel
theorem rm_0_2 : ¬ (("tokens" : Str) = "next_at") := by decide +kernel
theorem rn_0_3 : (("tokens" : Str) == "marks") = false := by decide +kernel
theorem rm_0_3 : ¬ (("tokens" : Str) = "marks") := by decide +kernel
theorem rn_0_4 : (("tokens" : Str) == "many_tables") = false := by decide +kernel
theorem rm_0_4 : ¬ (("tokens" : Str) = "many_tables") := by decide +kernel
theorem rn_0_5 : (("tokens" : Str) == "many_bags") = false := by decide +kernel
theorem rm_0_5 : ¬ (("tokens" : Str) = "many_bags") := by decide +kernel
theorem rn_1_0 : (("size" : Str) == "tokens") = false := by decide +kernel
theorem rm_1_0 : ¬ (("size" : Str) = "tokens") := by decide +kernel
theorem rn_1_2 : (("size" : Str) == "next_at") = false := by decide +kernel
theorem rm_1_2 : ¬ (("size" : Str) = "next_at") := by decide +kernel
theorem rn_1_3 : (("size" : Str) == "marks") = false := by decide +kernel
theorem rm_1_3 : ¬ (("size" : Str) = "marks") := by decide +kernel
theorem rn_1_4 : (("size" : Str) == "many_tables") = false := by decide +kernel
theorem rm_1_4 : ¬ (("size" : Str) = "many_tables") := by decide +kernel
theorem rn_1_5 : (("size" : Str) == "many_bags") = false := by decide +kernel
theorem rm_1_5 : ¬ (("size" : Str) = "many_bags") := by decide +kernel
theorem rn_2_0 : (("next_at" : Str) == "tokens") = false := by decide +kernel
theorem rm_2_0 : ¬ (("next_at" : Str) = "tokens") := by decide +kernel
theorem rn_2_1 : (("next_at" : Str) == "size") = false := by decide +kernel
theorem rm_2_1 : ¬ (("next_at" : Str) = "size") := by decide +kernel
theorem rn_2_3 : (("next_at" : Str) == "marks") = false := by decide +kernel
theorem rm_2_3 : ¬ (("next_at" : Str) = "marks") := by decide +kernel
theorem rn_2_4 : (("next_at" : Str) == "many_tables") = false := by decide +kernel
theorem rm_2_4 : ¬ (("next_at" : Str) = "many_tables") := by decide +kernel
theorem rn_2_5 : (("next_at" : Str) == "many_bags") = false := by decide +kernel
theorem rm_2_5 : ¬ (("next_at" : Str) = "many_bags") := by decide +kernel
theorem rn_3_0 : (("marks" : Str) == "tokens") = false := by decide +kernel
theorem rm_3_0 : ¬ (("marks" : Str) = "tokens") := by decide +kernel
theorem rn_3_1 : (("marks" : Str) == "size") = false := by decide +kernel
theorem rm_3_1 : ¬ (("marks" : Str) = "size") := by decide +kernel
theorem rn_3_2 : (("marks" : Str) == "next_at") = false := by decide +kernel
theorem rm_3_2 : ¬ (("marks" : Str) = "next_at") := by decide +kernel
theorem rn_3_4 : (("marks" : Str) == "many_tables") = false := by decide +kernel
theorem rm_3_4 : ¬ (("marks" : Str) = "many_tables") := by decide +kernel
theorem rn_3_5 : (("marks" : Str) == "many_bags") = false := by decide +kernel
theorem rm_3_5 : ¬ (("marks" : Str) = "many_bags") := by decide +kernel
theorem rn_4_0 : (("many_tables" : Str) == "tokens") = false := by decide +kernel
theorem rm_4_0 : ¬ (("many_tables" : Str) = "tokens") := by decide +kernel
theorem rn_4_1 : (("many_tables" : Str) == "size") = false := by decide +kernel
theorem rm_4_1 : ¬ (("many_tables" : Str) = "size") := by decide +kernel
theorem rn_4_2 : (("many_tables" : Str) == "next_at") = false := by decide +kernel
theorem rm_4_2 : ¬ (("many_tables" : Str) = "next_at") := by decide +kernel
theorem rn_4_3 : (("many_tables" : Str) == "marks") = false := by decide +kernel
theorem rm_4_3 : ¬ (("many_tables" : Str) = "marks") := by decide +kernel
theorem rn_4_5 : (("many_tables" : Str) == "many_bags") = false := by decide +kernel
theorem rm_4_5 : ¬ (("many_tables" : Str) = "many_bags") := by decide +kernel
theorem rn_5_0 : (("many_bags" : Str) == "tokens") = false := by decide +kernel
theorem rm_5_0 : ¬ (("many_bags" : Str) = "tokens") := by decide +kernel
theorem rn_5_1 : (("many_bags" : Str) == "size") = false := by decide +kernel
theorem rm_5_1 : ¬ (("many_bags" : Str) = "size") := by decide +kernel
theorem rn_5_2 : (("many_bags" : Str) == "next_at") = false := by decide +kernel
theorem rm_5_2 : ¬ (("many_bags" : Str) = "next_at") := by decide +kernel
theorem rn_5_3 : (("many_bags" : Str) == "marks") = false := by decide +kernel
theorem rm_5_3 : ¬ (("many_bags" : Str) = "marks") := by decide +kernel
theorem rn_5_4 : (("many_bags" : Str) == "many_tables") = false := by decide +kernel
theorem rm_5_4 : ¬ (("many_bags" : Str) = "many_tables") := by decide +kernel
theorem rl_tokens (F D : Addr) (s : Rd) : List.lookup ("tokens" : Str) (rfs F D s) = some (.ref F) := by
  unfold rfs
  skip
  simp [List.lookup]
theorem rl_size (F D : Addr) (s : Rd) : List.lookup ("size" : Str) (rfs F D s) = some (.int s.size) := by
  unfold rfs
  rw [List.lookup_cons, rn_1_0]
  simp [List.lookup]
theorem rl_next_at (F D : Addr) (s : Rd) : List.lookup ("next_at" : Str) (rfs F D s) = some (.int s.at_) := by
  unfold rfs
  rw [List.lookup_cons, rn_2_0, List.lookup_cons, rn_2_1]
  simp [List.lookup]
theorem rl_marks (F D : Addr) (s : Rd) : List.lookup ("marks" : Str) (rfs F D s) = some (.ref D) := by
  unfold rfs
  rw [List.lookup_cons, rn_3_0, List.lookup_cons, rn_3_1, List.lookup_cons, rn_3_2]
  simp [List.lookup]
theorem rl_many_tables (F D : Addr) (s : Rd) : List.lookup ("many_tables" : Str) (rfs F D s) = some (.int s.nt) := by
  unfold rfs
  rw [List.lookup_cons, rn_4_0, List.lookup_cons, rn_4_1, List.lookup_cons, rn_4_2, List.lookup_cons, rn_4_3]
  simp [List.lookup]
theorem rl_many_bags (F D : Addr) (s : Rd) : List.lookup ("many_bags" : Str) (rfs F D s) = some (.int s.nb) := by
  unfold rfs
  rw [List.lookup_cons, rn_5_0, List.lookup_cons, rn_5_1, List.lookup_cons, rn_5_2, List.lookup_cons, rn_5_3, List.lookup_cons, rn_5_4]
  simp [List.lookup]
theorem rp_next_at (F D : Addr) (s : Rd) (v : Nat) : putF "next_at" (.int v) (rfs F D s) = rfs F D { s with at_ := v } := by
  unfold rfs
  simp only [putF, if_neg rm_0_2, if_neg rm_1_2]
  simp
theorem rp_many_tables (F D : Addr) (s : Rd) (v : Nat) : putF "many_tables" (.int v) (rfs F D s) = rfs F D { s with nt := v } := by
  unfold rfs
  simp only [putF, if_neg rm_0_4, if_neg rm_1_4, if_neg rm_2_4, if_neg rm_3_4]
  simp
theorem rp_many_bags (F D : Addr) (s : Rd) (v : Nat) : putF "many_bags" (.int v) (rfs F D s) = rfs F D { s with nb := v } := by
  unfold rfs
  simp only [putF, if_neg rm_0_5, if_neg rm_1_5, if_neg rm_2_5, if_neg rm_3_5, if_neg rm_4_5]
  simp
/-- a reader at r: its tokens at F, its marks at D -/
structure RdAt (R : Addr) (H : Hp) (r F D : Addr) (s : Rd) : Prop where
  ob : ∃ dx, H r = some (.ins R dx (rfs F D s))
  tk : TokAt H F s.toks
  ma : H D = some (.dT s.marks)
/-- the class Reader -/
structure RdC (K : PySem.W.Frag) (R : Addr) : Prop where
  cl : Cls K R
  n0 : NoAttr K R "tokens"
  n1 : NoAttr K R "size"
  n2 : NoAttr K R "next_at"
  n3 : NoAttr K R "marks"
  n4 : NoAttr K R "many_tables"
  n5 : NoAttr K R "many_bags"
theorem rfs_len (F D : Addr) (s : Rd) : (rfs F D s).length < 1000 := by
  show 6 < 1000
  decide
theorem rf_start (F D : Addr) (z : Str) : putF "many_bags" (.int 0) (putF "many_tables" (.int 0) (putF "marks" (.ref D) (putF "next_at" (.int 0) (putF "size" (.int z.length) (putF "tokens" (.ref F) []))))) = rfs F D (rdStart z) := by
  simp only [putF, if_neg rm_0_1, if_neg rm_0_2, if_neg rm_1_2, if_neg rm_0_3, if_neg rm_1_3, if_neg rm_2_3, if_neg rm_0_4, if_neg rm_1_4, if_neg rm_2_4, if_neg rm_3_4, if_neg rm_0_5, if_neg rm_1_5, if_neg rm_2_5, if_neg rm_3_5, if_neg rm_4_5]
  rfl
theorem RdAt.grow {R : Addr} {H H' : Hp} {r F D : Addr} {s : Rd} (h : RdAt R H r F D s) (g : But (fun _ => False) H H') : RdAt R H' r F D s := by
  obtain ⟨⟨dx, a⟩, b, c⟩ := h
  exact ⟨⟨dx, g _ _ a id⟩, b.grow g, g _ _ c id⟩
/-- the reader's attributes change -/
theorem RdAt.set {R : Addr} {H : Hp} {r F D dx : Addr} {s s' : Rd} (h : RdAt R H r F D s) (ht : s'.toks = s.toks) (hm : s'.marks = s.marks) : RdAt R (upd H r (.ins R dx (rfs F D s'))) r F D s' := by
  obtain ⟨⟨dy, a⟩, ⟨rs, t1, t2, t3⟩, c⟩ := h
  refine ⟨⟨dx, upd_same⟩, ⟨rs, ?_, by rw [ht]; exact t2, fun i q t h1 h2 => ?_⟩, ?_⟩
  · rw [upd_ne (fun e => by rw [e, a] at t1; cases t1)]
    exact t1
  · rw [ht] at h2
    have b := t3 i q t h1 h2
    rw [upd_ne (fun e => by rw [e, a] at b; cases b)]
    exact b
  · rw [upd_ne (fun e => by rw [e, a] at c; cases c), hm]
    exact c
/-- a mark is put -/
theorem RdAt.put {R : Addr} {H : Hp} {r F D : Addr} {s s' : Rd} (h : RdAt R H r F D s) (hf : rfs F D s' = rfs F D s) (ht : s'.toks = s.toks) : RdAt R (upd H D (.dT s'.marks)) r F D s' := by
  obtain ⟨⟨dy, a⟩, ⟨rs, t1, t2, t3⟩, c⟩ := h
  refine ⟨⟨dy, ?_⟩, ⟨rs, ?_, by rw [ht]; exact t2, fun i q t h1 h2 => ?_⟩, upd_same⟩
  · rw [upd_ne (fun e => by rw [e, c] at a; cases a), hf]
    exact a
  · rw [upd_ne (fun e => by rw [e, c] at t1; cases t1)]
    exact t1
  · rw [ht] at h2
    have b := t3 i q t h1 h2
    rw [upd_ne (fun e => by rw [e, c] at b; cases b)]
    exact b
/-- what a method of the reader leaves -/
def RdEnd (R B r F D : Addr) (res : Except Nat Rd) (H : Hp) (Q : VK) (E : XK) : Prop :=
  (∀ s', res = .ok s' → ∀ H', RdAt R H' r F D s' → But (fun x => x = r ∨ x = D) H H' → Q .non H') ∧
    ∀ p, res = .error p → ∀ (d : Addr) (H' : Hp), H d = none → H' d = some (.xd [("at", .int (p : Nat))]) → But (fun x => x = r ∨ x = D) H H' → E (.ref B) (some d) H'
theorem RdEnd.shift {R B r F D : Addr} {res : Except Nat Rd} {H H1 : Hp} {Q : VK} {E : XK} {s1 : Rd} (k : RdEnd R B r F D res H Q E) (g : But (fun x => x = r ∨ x = D) H H1) (rd : RdAt R H1 r F D s1) : RdEnd R B r F D res H1 Q E := by
  refine ⟨fun s' e H' h bt => k.1 s' e H' h (g.trans bt), fun p e d H' hd hx bt => k.2 p e d H' ?_ hx (g.trans bt)⟩
  cases q : H d with
  | none => rfl
  | some o =>
    by_cases z : d = r ∨ d = D
    · rcases z with z | z
      · obtain ⟨dx, ob⟩ := rd.ob
        rw [z, ob] at hd
        cases hd
      · rw [z, rd.ma] at hd
        cases hd
    · rw [g d o q z] at hd
      cases hd
/-- the first part may refuse -/
theorem RdEnd.err {R B r F D : Addr} {x : Except Nat Rd} {f : Rd → Except Nat Rd} {H : Hp} {Q : VK} {E : XK} (k : RdEnd R B r F D (x.bind f) H Q E) : ∀ p, x = .error p → ∀ (d : Addr) (H' : Hp), H d = none → H' d = some (.xd [("at", .int (p : Nat))]) → But (fun x => x = r ∨ x = D) H H' → E (.ref B) (some d) H' :=
  fun p e d H' hd hx bt => k.2 p (by rw [e]; rfl) d H' hd hx bt
theorem RdEnd.rest {R B r F D : Addr} {x : Except Nat Rd} {f : Rd → Except Nat Rd} {H H1 : Hp} {Q : VK} {E : XK} {s1 : Rd} (k : RdEnd R B r F D (x.bind f) H Q E) (e : x = .ok s1) (g : But (fun x => x = r ∨ x = D) H H1) (rd : RdAt R H1 r F D s1) : RdEnd R B r F D (f s1) H1 Q E := by
  have h : x.bind f = f s1 := by rw [e]; rfl
  rw [h] at k
  exact k.shift g rd
/-! how many marks there are -/
structure Rd.Ok (s : Rd) : Prop where
  m : s.marks.length ≤ s.nt + s.nb
  t : s.nt ≤ 6
  b : s.nb ≤ 6
  w : ∀ t ∈ s.toks, t.2.length ≤ 90000
theorem Rd.Ok.word {s : Rd} (o : s.Ok) : s.word.length ≤ 90000 := by
  unfold Rd.word
  split
  · rename_i t h
    have := o.w t (List.mem_of_getElem? h)
    show t.2.toArray.size ≤ _
    simpa using this
  · decide
theorem putK_len {α : Type} [DecidableEq α] (kvs : List (α × V)) (k : α) (v : V) : (putK kvs k v).length ≤ kvs.length + 1 := by
  unfold putK
  split <;> simp
theorem rdTake_ok {x : Str} {s s' : Rd} (h : rdTake x s = .ok s') (o : s.Ok) : s'.Ok := by
  unfold rdTake at h
  split at h
  · cases h
    exact ⟨o.m, o.t, o.b, o.w⟩
  · cases h
theorem bind_ok {x : Except Nat Rd} {f : Rd → Except Nat Rd} {s' : Rd} (h : x.bind f = .ok s') : ∃ s1, x = .ok s1 ∧ f s1 = .ok s' := by
  cases x with
  | error e => cases h
  | ok s1 => exact ⟨s1, rfl, h⟩
theorem rdEntry_ok {tab : List Key → Rd → Except Nat Rd} (ht : ∀ pl s s', tab pl s = .ok s' → s.Ok → s'.Ok) {pl : List Key} {s s' : Rd} (h : rdEntry tab pl s = .ok s') (o : s.Ok) : s'.Ok := by
  unfold rdEntry at h
  split at h
  · cases h
  · obtain ⟨s2, e2, h⟩ := bind_ok h
    have o2 : s2.Ok := rdTake_ok e2 ⟨o.m, o.t, o.b, o.w⟩
    split at h
    · exact ht _ _ _ h o2
    · split at h
      · cases h
      · rename_i hb
        cases h
        have a := o2.m
        have b := o2.b
        have c := putK_len s2.marks (pl ++ [Sum.inr s.word]) (.str s2.word)
        exact ⟨by show (putK _ _ _).length ≤ s2.nt + (s2.nb + 1); omega, o2.t, by show s2.nb + 1 ≤ 6; omega, o2.w⟩
theorem rdMore_ok {ent : Rd → Except Nat Rd} (he : ∀ s s', ent s = .ok s' → s.Ok → s'.Ok) : ∀ {k : Nat} {s s' : Rd}, rdMore ent k s = .ok s' → s.Ok → s'.Ok
  | 0, s, s', h, o => by
    unfold rdMore at h
    split at h
    · cases h
    · cases h; exact o
  | k + 1, s, s', h, o => by
    unfold rdMore at h
    split at h
    · obtain ⟨s2, e2, h⟩ := bind_ok h
      exact rdMore_ok he h (he _ _ e2 ⟨o.m, o.t, o.b, o.w⟩)
    · cases h; exact o
theorem rdTable_ok : ∀ {n : Nat} {pl : List Key} {s s' : Rd}, rdTable n pl s = .ok s' → s.Ok → s'.Ok
  | 0, _, _, _, h, _ => by cases h
  | n + 1, pl, s, s', h, o => by
    unfold rdTable at h
    split at h
    · cases h
    · rename_i hc
      have hc2 : ¬ s.nt = 6 := fun q => hc (.inr q)
      obtain ⟨s2, e2, h⟩ := bind_ok h
      obtain ⟨s3, e3, h⟩ := bind_ok h
      obtain ⟨s4, e4, h⟩ := bind_ok h
      have a := o.m
      have b := o.t
      have c := putK_len s.marks pl (.str s.word)
      have o2 : s2.Ok := rdTake_ok e2 ⟨by show (putK _ _ _).length ≤ s.nt + 1 + s.nb; omega, by show s.nt + 1 ≤ 6; omega, o.b, o.w⟩
      have ht : ∀ pl s s', rdTable n pl s = .ok s' → s.Ok → s'.Ok := fun pl s s' h o => rdTable_ok h o
      exact rdTake_ok h (rdMore_ok (fun s s' h o => rdEntry_ok ht h o) e4 (rdEntry_ok ht e3 o2))
/-- what the written part says of the constants of Book -/
structure BkC (K : PySem.W.Frag) (mg : Str → Option Value) (BK : Addr) (mc : Value) : Prop where
  gl : mg "Book" = some (.ref BK)
  rd : CRead K BK mc
  modes : ∃ a, CVal K BK mc "MODES" (.ref a) (.ref a) ∧ ∀ H : Hp, SqT K H a (modes.map V.str)
  levels : ∃ t, CVal K BK mc "MOST_LEVELS" (.int 4) (.int 4 t)
  keys : ∃ t, CVal K BK mc "MOST_KEYS" (.int 3) (.int 3 t)
  tables : ∃ t, CVal K BK mc "MOST_TABLES" (.int 6) (.int 6 t)
  bags : ∃ t, CVal K BK mc "MOST_BAGS" (.int 6) (.int 6 t)
def spRT (R B : Addr) (n : Nat) : Sp := fun vs H Q E => ∃ (r F D pl : Addr) (place : List Key) (s : Rd), vs = [.ref r, .ref pl] ∧ RdAt R H r F D s ∧ H pl = some (.tup (place.map kV)) ∧ place.length + n = 4 ∧ s.Ok ∧ RdEnd R B r F D (rdTable n place s) H Q E
def spRE (R B : Addr) (n : Nat) : Sp := fun vs H Q E => ∃ (r F D pl : Addr) (place : List Key) (s : Rd), vs = [.ref r, .ref pl] ∧ RdAt R H r F D s ∧ H pl = some (.tup (place.map kV)) ∧ place.length + 1 + n = 4 ∧ s.Ok ∧ RdEnd R B r F D (rdEntry (rdTable n) place s) H Q E
def spRInit (R : Addr) : Sp := fun vs H Q _ => ∃ (r dx : Addr) (z : Str), vs = [.ref r, .str z] ∧ H r = some (.ins R dx []) ∧ z.length ≤ 90000 ∧ ∀ (F D : Addr) (H' : Hp), H F = none → H D = none → RdAt R H' r F D (rdStart z) → But (· = r) H H' → Q .non H'
def spWord (R : Addr) : Sp := fun vs H Q _ => ∃ (r F D : Addr) (s : Rd), vs = [.ref r] ∧ RdAt R H r F D s ∧ Q (.str s.word) H
def spRefuse (R B : Addr) : Sp := fun vs H _ E => ∃ (r F D : Addr) (s : Rd), vs = [.ref r] ∧ RdAt R H r F D s ∧ ∀ d, H d = none → E (.ref B) (some d) (upd H d (.xd [("at", .int (s.pos : Nat))]))
def spTakeR (R B : Addr) : Sp := fun vs H Q E => ∃ (r F D : Addr) (s : Rd) (x : Str), vs = [.ref r, .str x] ∧ RdAt R H r F D s ∧ RdEnd R B r F D (rdTake x s) H Q E
section
variable {X : Cx} {k j : Nat} {C : Addr} {m : Str} {sp : Sp} {dvs : List V} {pos apos : Pos} {o : Expr} {ta : TE} {W : WX}
theorem pe_mtS0 {pl : Sem Bool} (c : MtX X.prog X.w X.K X.mg X.base k C m sp dvs) (tk : Takes X W) (hr : Room j X.A) (hk : k ≤ j) (he : PE X o ta)
    (ht : eval (.Call (.Attribute o m apos) [] [] pos) X.env = (eval o X.env >>= fun ov => standAt apos.atName >>= fun _ => holding [ov] (getMethod ov m pl) >>= fun q => callWith pos q.1 q.2 (backTo pos (starEach [] X.env)) (backToKw pos (keywordEach [] X.env))) := by rfl) :
    PE X (.Call (.Attribute o m apos) [] [] pos) (tMethS C m sp dvs (WE W) ta tNil) := by
  obtain ⟨f, fd, ps, ds, cl, hm, F, hb, hd⟩ := c.ex
  refine ⟨fun pins s σ H Q I h => ?_⟩
  refine PySem.W.methodCall_KW (pl := pl) (thn (he.run pins s σ H _ I h) fun u s1 ⟨x, H1, I1, rx, a, dx, fs, ex, ea, l, q⟩ => ?_) ht
  subst ex
  obtain rfl : u = Value.ref a := rx
  refine getmeth_ok I1 ea cl hm l ?_
  exact PySem.W.callWith_K0 (first := [.ref a]) I1.kIn hm.kp (run_fnE (us := [.ref a]) (vs := [.ref a]) F (hr.mono hk) hb hd (passAt tk σ) I1 (.cons rfl .nil) q)
end
theorem rl_no {m : Str} (F D : Addr) (s : Rd) (h : ["tokens", "size", "next_at", "marks", "many_tables", "many_bags"].all (fun f => !(m == Str.ofString f)) = true) : List.lookup m (rfs F D s) = none := by
  simp only [List.all_cons, List.all_nil, Bool.and_true, Bool.and_eq_true, Bool.not_eq_true'] at h
  obtain ⟨h0, h1, h2, h3, h4, h5⟩ := h
  unfold rfs
  rw [List.lookup_cons, h0, List.lookup_cons, h1, List.lookup_cons, h2, List.lookup_cons, h3, List.lookup_cons, h4, List.lookup_cons, h5]
  rfl
end L2.G42

set_option Elab.async false
set_option linter.all false
set_option maxRecDepth 100000
set_option maxHeartbeats 4000000
set_option pp.maxSteps 400
namespace K71
open PySem L2 L2.G42
open Evl (pss_cut)
open PyProof.Rows (boot_isinstance boot_int boot_bool boot_list boot_set boot_abs boot_enumerate)
abbrev sOf : Stmt := top 14
abbrev sKept : Stmt := top 16
abbrev sIsKey : Stmt := top 6
abbrev sLKey : Stmt := top 17
theorem boot_all : bootBuiltins "all" = some (.builtin "all") := by decide +kernel
theorem scOf : FnScope ["_law_pot_here", "_law_some"] ["_law_pot_here", "_law_some"] (defScope sOf) := ⟨rfl, rfl, rfl, by decide +kernel, rfl, by decide +kernel, by decide +kernel⟩
theorem scKept : FnScope [] [] (defScope sKept) := ⟨rfl, rfl, rfl, by decide +kernel, rfl, by decide +kernel, by decide +kernel⟩
abbrev NIsKey : List Str := ["word", "sign"]
theorem scIsKey : FnScope NIsKey ["word"] (defScope sIsKey) := ⟨rfl, rfl, rfl, by decide +kernel, rfl, by decide +kernel, by decide +kernel⟩
theorem flat_strs (ys : List Str) : (ys.map V.str).all flatV = true := by
  rw [List.all_map, List.all_eq_true]
  intro x _
  rfl
theorem log_small {n : Nat} (h : n ≤ 1000) : ((n : Int)).natAbs.log2 < 9000 := by
  rw [Int.natAbs_natCast]
  exact Nat.lt_of_le_of_lt (Nat.log2_le_self n) (by omega)
/-- the names of the module that is_key reads -/
structure KyN (K : PySem.W.Frag) (mg : Str → Option Value) : Prop where
  letters : ∃ t, mg "LETTERS" = some (.str lettersS t)
  res : ∃ ra, mg "RESERVED" = some (.ref ra) ∧ ∀ H : Hp, SqT K H ra (reserved.map V.str)
def spOfS : Sp := fun vs H Q _ => ∃ (a : Addr) (z : Str), vs = [.ref a, .str z] ∧ SrcAt H a ∧ 0 < z.length ∧ z.length ≤ 1000 ∧ ∀ (i ch : Nat) (c st n : Int), z.cps.toList[i]? = some ch → Q (.str (tx [ch])) (upd H a (src c st n))
def spKept : Sp := fun vs H Q _ => vs = [] ∧ ∀ (r : Addr) (H' : Hp), H r = none → H' r = some (.lst (reserved.map V.str)) → But (fun _ => False) H H' → Q (.ref r) H'
section
variable {P : Program} {w : World} {K : PySem.W.Frag} {mg : Str → Option Value} {base : Heap}
theorem ok_of {f : Addr} {fd : FuncData} (F : Fun K "_law_of" "_law_of" sOf f fd) (T : Bn mg) (cDraw : Cl P w K mg base 1 "_law_draw" spTake []) : FnOk P w K mg base CX0 2 f fd ["_law_pot_here", "_law_some"] (spOf K) := by
  refine F.ok scOf (fun vs H Q E h => ?_) (fun cdv A outer s H vs Q E hr h => ?_)
  · obtain ⟨a, l, xs, rfl, _⟩ := h
    rfl
  · obtain ⟨a, l, xs, rfl, S, hl, ne, h0, h1, k⟩ := h
    refine ⟨_, (pss_one (ps_ret (pe_ix ix_list (pv 1) (pe_c cDraw hr (by decide) rfl (pa_cons (pv 0) (pa_cons (pe_callB call_len_seq (by rfl) T.len PySem.boot_len (pa_cons (pv 1) pa_nil)) pa_nil))) (fun _ _ => rfl)))), ?_⟩
    refine ⟨_, rfl, _, rfl, _, rfl, l, xs, rfl, .inl hl, a, _, rfl, by omega, log_small h1, S, fun r c st n r0 r1 => ?_⟩
    obtain ⟨i, rfl⟩ := Int.eq_ofNat_of_zero_le r0
    have hi : i < xs.length := by omega
    refine ⟨l, _, _, xs[i], rfl, rfl, SqL.but hl (But.at (S := (· = a)) rfl) (fun e => ne e.symm), atI_nat (List.getElem?_eq_getElem hi), k i _ c st n (List.getElem?_eq_getElem hi)⟩
theorem ok_ofS {f : Addr} {fd : FuncData} (F : Fun K "_law_of" "_law_of" sOf f fd) (T : Bn mg) (cDraw : Cl P w K mg base 1 "_law_draw" spTake []) : FnOk P w K mg base CX0 2 f fd ["_law_pot_here", "_law_some"] spOfS := by
  refine F.ok scOf (fun vs H Q E h => ?_) (fun cdv A outer s H vs Q E hr h => ?_)
  · obtain ⟨a, z, rfl, _⟩ := h
    rfl
  · obtain ⟨a, z, rfl, S, h0, h1, k⟩ := h
    refine ⟨_, (pss_one (ps_ret (pe_ix ix_str (pv 1) (pe_c cDraw hr (by decide) rfl (pa_cons (pv 0) (pa_cons (pe_callB call_len_str (by rfl) T.len PySem.boot_len (pa_cons (pv 1) pa_nil)) pa_nil))) (fun _ _ => rfl)))), ?_⟩
    refine ⟨_, rfl, _, rfl, _, rfl, z, rfl, szle (by omega), a, _, rfl, by omega, log_small h1, S, fun r c st n r0 r1 => ?_⟩
    obtain ⟨i, rfl⟩ := Int.eq_ofNat_of_zero_le r0
    have hi : i < z.cps.toList.length := by
      have : z.cps.toList.length = z.length := by show _ = z.cps.size; simp
      omega
    exact ⟨z, _, _, rfl, rfl, szle (by omega), atI_nat (List.getElem?_eq_getElem hi), k i _ c st n (List.getElem?_eq_getElem hi)⟩
theorem ok_kept {f : Addr} {fd : FuncData} (F : Fun K "_law_kept" "_law_kept" sKept f fd) : FnOk P w K mg base CX0 1 f fd [] spKept := by
  refine F.ok scKept (fun vs H Q E h => ?_) (fun cdv A outer s H vs Q E hr h => ?_)
  · obtain ⟨rfl, _⟩ := h
    rfl
  · obtain ⟨rfl, k⟩ := h
    refine ⟨_, (pss_one (ps_ret (pe_lst (pa_cons pe_str (pa_cons pe_str (pa_cons pe_str (pa_cons pe_str (pa_cons pe_str (pa_cons pe_str (pa_cons pe_str (pa_cons pe_str (pa_cons pe_str (pa_cons pe_str (pa_cons pe_str (pa_cons pe_str (pa_cons pe_str (pa_cons pe_str (pa_cons pe_str (pa_cons pe_str (pa_cons pe_str (pa_cons pe_str (pa_cons pe_str pa_nil)))))))))))))))))))))), ?_⟩
    exact ⟨szle (by simp), fun r hr => k r _ hr upd_same (But.new hr)⟩
end
end K71

set_option Elab.async false
set_option linter.all false
set_option maxRecDepth 100000
set_option maxHeartbeats 4000000
namespace L2.G42
open PySem PySem.Spec PyProof.Rows
/-! the order of texts, of tuples of texts -/
def ltS (x y : Str) : Bool := decide (x.cps.toList < y.cps.toList)
def lexS : List Str → List Str → Bool
  | [], [] => false
  | [], _ :: _ => true
  | _ :: _, [] => false
  | x :: xs, y :: ys => if x = y then lexS xs ys else ltS x y
inductive StrsAre : List Value → List Str → Prop
  | nil : StrsAre [] []
  | cons (x : Str) (t : Tok) {vs : List Value} {xs : List Str} (h : StrsAre vs xs) : StrsAre (.str x t :: vs) (x :: xs)
theorem StrsAre.length {vs : List Value} {xs : List Str} (h : StrsAre vs xs) : vs.length = xs.length := by
  induction h with
  | nil => rfl
  | cons x t h ih => simp [ih]
theorem rcLt_str (A : Around) (s : Shared) (x : Str) (t : Tok) (y : Str) (u : Tok) (prog : Program) (w : World) (E : Value → Shared → Prop) (Q : Value → Shared → Prop) (h : Q (.bool (ltS x y)) s) :
    wpAny (model prog w) A (richCompare .Lt (.str x t) (.str y u)) Q E s :=
  (PyProof.Rows.lt_str h : wpAny (model prog w) A (compareOp .Lt (.str x t) (.str y u)) Q E s)
section
open PySem.SeqAt
open PySem.AutoSeq1 (wpAny_loadPart')
open PySem.MeetsSeq PySem.MeetsSeq2 PySem.MeetsSeq3
theorem tuple_lt_strs (l b : Addr) (items items2 : Array Value) (n n2 : Nat) (dd dd2 : Option Addr) (sl sl2 : Array (Option Value)) (ns ms : List Str) (hi : StrsAre items.toList ns) (hj : StrsAre items2.toList ms) :
    Meets (Builtin.«tuple.__lt__» ⟨[.ref l, .ref b], []⟩)
      (fun _ R s => s.heap.get? l = some { cls := .type "tuple", dict := dd, data := .seq items n, slots := sl } ∧ s.heap.get? b = some { cls := .type "tuple", dict := dd2, data := .seq items2 n2, slots := sl2 } ∧
        R (.ok (.ret (.bool (lexS ns ms)))) s) :=
  .of_wp fun prog w A R s h => by
    obtain ⟨hp, g, d, tk, os⟩ := s; obtain ⟨hl, hb, h⟩ := h
    have f2 := AutoSeq1.sub_tuple_tuple
    have z1 : items.size = ns.length := by rw [← hi.length]; simp
    have z2 : items2.size = ms.length := by rw [← hj.length]; simp
    wp_walk using wpAny_loadPart' hl, wpAny_loadPart' hb, wpAny_forIn_list _ (fun rest b s' => b.1 = none ∧ s' = ⟨hp, g, d, tk, os⟩ ∧ ∃ (vs ws : List Value) (ns' ms' : List Str), rest = vs.zip ws ∧
      StrsAre vs ns' ∧ StrsAre ws ms' ∧ ns'.length + items2.size = ms'.length + items.size ∧ R (.ok (.ret (.bool (lexS ns' ms')))) ⟨hp, g, d, tk, os⟩) _
    case turn =>
      rintro ⟨y, x⟩ rest b s' ⟨hb', rfl, vs, ws, ns', ms', hz, hvi, hwi, hlen, hR⟩
      cases hvi with
      | nil => rw [List.zip_nil_left] at hz; cases hz
      | cons a t hvi' =>
        cases hwi with
        | nil => rw [List.zip_nil_right] at hz; cases hz
        | cons c u hwi' =>
          rw [List.zip_cons_cons] at hz
          injection hz with hyx hrest
          injection hyx with hy hx
          subst hy hx
          simp only [List.length_cons] at hlen
          have he := SeqAt.EqAt.str_str (A := A.in1) (s := ⟨hp, g, d, tk, os⟩) a t c u
          refine wpAny_bind (he prog w _ _ ?_)
          cases e : (a == c) with
          | true =>
            have ac : a = c := by simpa using e
            have hR' : R (.ok (.ret (.bool (if a = c then lexS _ _ else ltS a c)))) ⟨hp, g, d, tk, os⟩ := hR
            rw [if_pos ac] at hR'
            wp_walk
            exact ⟨rfl, rfl, _, _, _, _, hrest, hvi', hwi', by omega, hR'⟩
          | false =>
            have ac : ¬ a = c := by simpa using e
            have hR' : R (.ok (.ret (.bool (if a = c then lexS _ _ else ltS a c)))) ⟨hp, g, d, tk, os⟩ := hR
            rw [if_neg ac] at hR'
            have hri := rcLt_str A.in1 ⟨hp, g, d, tk, os⟩ a t c u prog w
            wp_walk using hri
            exact ⟨_, rfl, by simpa using hR'⟩
    case fin =>
      rintro ⟨b1, b2⟩ s' ⟨hb', rfl, vs, ws, ns', ms', hz, hvi, hwi, hlen, hR⟩
      simp only at hb'
      subst hb'
      have hv : lexS ns' ms' = decide (items.size < items2.size) := by
        cases hvi with
        | nil =>
          cases hwi with
          | nil =>
            simp only [List.length_nil] at hlen
            exact (decide_eq_false (by omega)).symm
          | cons c u hw =>
            simp only [List.length_nil, List.length_cons] at hlen
            exact (decide_eq_true (by omega)).symm
        | cons a t hv =>
          cases hwi with
          | nil =>
            simp only [List.length_nil, List.length_cons] at hlen
            exact (decide_eq_false (by omega)).symm
          | cons c u hw =>
            rw [List.zip_cons_cons] at hz
            cases hz
      rw [hv] at hR
      wp_walk
      exact ⟨_, rfl, by simpa [Builtin.Tuple.tupleCompareSizes] using hR⟩
    case h =>
      exact ⟨rfl, rfl, items.toList, items2.toList, ns, ms, rfl, hi, hj, by omega, h⟩
end
section
variable {prog : Program} {w : World} {A : Around} {E : Value → Shared → Prop} {s : Shared}
theorem lt_tupStrs {l b : Addr} {items items2 : Array Value} {ns ms : List Str} {Q : Value → Shared → Prop} (hl : IsTup s.heap l items) (hb : IsTup s.heap b items2) (hi : StrsAre items.toList ns) (hj : StrsAre items2.toList ms)
    (hu : A.units < cLine) (h : Q (.bool (lexS ns ms)) s) : wpAny (model prog w) A (compareOp .Lt (.ref l) (.ref b)) Q E s := by
  obtain ⟨⟨cls, dd, data, sl⟩, ho, hc, n, hd⟩ := id hl
  obtain ⟨⟨cls2, dd2, data2, sl2⟩, ho2, hc2, n2, hd2⟩ := id hb
  simp only at hc hd hc2 hd2
  subst hc hd hc2 hd2
  exact richCompare_meets_room (op := .Lt) ⟨_, ho, rfl⟩ ⟨_, ho2, rfl⟩ PySem.F.slot_tuple_lt PySem.F.entry_tuple_lt (PySem.F.args_tuple_lt_2 _ _) (tuple_lt_strs l b items items2 n n2 dd dd2 sl sl2 ns ms hi hj)
    ⟨ho, ho2, show Value.bool (lexS ns ms) ≠ Value.notImplemented ∧ Q (.bool (lexS ns ms)) s from ⟨(fun x => nomatch x), h⟩⟩ hu
end
end L2.G42

set_option Elab.async false
set_option linter.all false
set_option maxRecDepth 100000
set_option maxHeartbeats 4000000
namespace L2.G42
open PySem PySem.Spec PyProof.Rows
section
variable {prog : Program} {w : World} {A : Around} {E : Value → Shared → Prop} {s : Shared}
theorem oneLt_tupStrs {l b : Addr} {items items2 : Array Value} {ns ms : List Str} {Q : Bool → Shared → Prop} (hl : IsTup s.heap l items) (hb : IsTup s.heap b items2) (hi : StrsAre items.toList ns) (hj : StrsAre items2.toList ms)
    (hu : A.units < cLine) (h : Q (lexS ns ms) s) : wpAny (model prog w) A (oneLt' true (.ref l) (.ref b)) Q E s := by
  obtain ⟨⟨cls, dd, data, sl⟩, ho, hc, n, hd⟩ := id hl
  obtain ⟨⟨cls2, dd2, data2, sl2⟩, ho2, hc2, n2, hd2⟩ := id hb
  simp only at hc hd hc2 hd2
  subst hc hd hc2 hd2
  rw [oneLt'_eq]
  simp only [if_true]
  refine wpAny_bind (wpAny_cRoomFor hu ?_)
  refine wpAny_bind (wpAny_callSpecialIfBound?_slot (T := "tuple") ⟨_, ho, rfl⟩ PySem.F.slot_tuple_lt (call_meets PySem.F.slot_tuple_lt ⟨_, ho, rfl⟩ PySem.F.entry_tuple_lt (PySem.F.args_tuple_lt_2 _ _) (tuple_lt_strs l b items items2 n n2 dd dd2 sl sl2 ns ms hi hj) ⟨ho, ho2, ?_⟩))
  exact wpAny_truthy_bool h
end
end L2.G42

set_option Elab.async false
set_option linter.all false
set_option maxRecDepth 100000
set_option maxHeartbeats 4000000
namespace L2.G42
open PySem PySem.Spec PyProof.Rows PySem.W
/-- tuples, each with its first item, if it has one -/
def Tups (h : Heap) : List Value → List (Option Value) → Prop
  | [], [] => True
  | v :: vs, f :: fs => (∃ a o xs n, v = .ref a ∧ h.get? a = some o ∧ o.cls = .type "tuple" ∧ o.data = .seq xs n ∧ xs[0]? = f) ∧ Tups h vs fs
  | _, _ => False
section
variable {M : Model} {A : Around} {E : Value → Shared → Prop} {s : Shared}
theorem tups_firsts : ∀ (vs : List Value) (fs : List (Option Value)) {Q : List (Option Value) → Shared → Prop}, Tups s.heap vs fs → Q fs s → wpAny M A (vs.mapM firstOfTuple') Q E s
  | [], [], _, _, h => by rw [List.mapM_nil]; exact wpAny_pure h
  | [], _ :: _, _, t, _ => t.elim
  | _ :: _, [], _, t, _ => t.elim
  | v :: vs, f :: fs, Q, t, h => by
    obtain ⟨⟨a, o, xs, n, rfl, ho, hc, hd, hf⟩, t⟩ := t
    rw [List.mapM_cons]
    refine wpAny_bind ?_
    rw [kas_first_eq]
    refine wpAny_bind (Looks.here (show Looks M s.heap (typeOf (.ref a)) o.cls from (Looks.ld ho).andThen .now) ?_)
    rw [hc, if_neg (by first | decide | simp)]
    refine wpAny_bind (listItems_at ho hd (wpAny_pure ?_))
    rw [hf]
    exact wpAny_bind (tups_firsts vs fs (Q := fun bs s' => wpAny M A (pure (f :: bs)) Q E s') t (wpAny_pure h))
theorem tups_types : ∀ (vs : List Value) (fs : List (Option Value)), Tups s.heap vs fs → ∀ v ∈ vs, Looks M s.heap (typeOf v) (.type "tuple")
  | [], _, _, v, hv => by cases hv
  | _ :: _, [], t, _, _ => t.elim
  | v :: vs, f :: fs, t, u, hu => by
    obtain ⟨⟨a, o, xs, n, rfl, ho, hc, hd, hf⟩, t⟩ := t
    rcases List.mem_cons.mp hu with e | e
    · subst e
      have h : Looks M s.heap (typeOf (.ref a)) o.cls := (Looks.ld ho).andThen .now
      rw [hc] at h
      exact h
    · exact tups_types vs fs t u e
/-- the kind of keys: tuples, the first of them empty -/
theorem tups_kind {vs : List Value} {fs : List (Option Value)} {Q : SortKind → Shared → Prop} (t : Tups s.heap vs (none :: fs)) (h : Q oneType' s) : wpAny M A (keyKind' vs.toArray) Q E s := by
  rw [kat_kind_eq, List.mapM_toArray, map_eq_pure_bind]
  refine wpAny_bind (wpAny_bind (tups_firsts vs _ t (wpAny_pure ?_)))
  have h1 : ((none :: fs).toArray.all fun x => x.isSome) = false := by simp
  rw [h1, if_neg (by decide)]
  have h2 : (((none :: fs).toArray)[0]?.bind id).isSome = false := by simp
  rw [h2, if_neg (by decide)]
  have ty := tups_types (M := M) vs _ t
  rw [oneTypeOnly'_eq, List.mapM_toArray, map_eq_pure_bind]
  refine wpAny_bind (wpAny_bind (wpAny_bind (kas_mapM (r := .type "tuple") _ (fun v hv Q' hq => (ty v hv).here hq) (wpAny_pure ?_))))
  obtain ⟨v, rest, rfl⟩ : ∃ v rest, vs = v :: rest := by
    cases vs with
    | nil => exact t.elim
    | cons v rest => exact ⟨v, rest, rfl⟩
  have hall2 : ((List.map (fun _ => Value.type "tuple") (v :: rest)).toArray.all fun x => x == Value.type "tuple") = true := by
    simp only [List.all_toArray, List.all_map, List.all_eq_true]
    intro _ _
    rfl
  have h0 : (List.map (fun _ => Value.type "tuple") (v :: rest)).toArray[0]? = some (Value.type "tuple") := by simp
  rw [h0]
  simp only [hall2, if_true]
  refine wpAny_pure ?_
  simp only [Option.isSome_some, if_true]
  exact wpAny_pure h
end
end L2.G42

set_option Elab.async false
set_option linter.all false
set_option maxRecDepth 100000
set_option maxHeartbeats 4000000
namespace L2.G42
open PySem PySem.Spec PyProof.Rows
/-! sorted(list of tuples of texts), the empty one ahead -/
abbrev ltT (k : V → List Str) (x y : V) : Bool := lexS (k x) (k y)
theorem ltS_irrefl (x : Str) : ltS x x = false := by
  unfold ltS
  exact decide_eq_false (List.lt_irrefl _)
theorem ltS_asymm {x y : Str} (h : ltS x y = true) : ltS y x = false := by
  unfold ltS at *
  exact decide_eq_false (List.lt_asymm (of_decide_eq_true h))
theorem str_ext {x y : Str} (h : x.cps.toList = y.cps.toList) : x = y := by
  cases x with
  | mk a =>
    cases y with
    | mk b =>
      congr 1
      exact Array.toList_inj.mp h
theorem ltS_conn {x y : Str} (h1 : ltS x y = false) (h2 : ltS y x = false) : x = y := by
  unfold ltS at *
  have a : ¬ x.cps.toList < y.cps.toList := of_decide_eq_false h1
  have b : ¬ y.cps.toList < x.cps.toList := of_decide_eq_false h2
  exact str_ext (List.le_antisymm (by simpa using b) (by simpa using a))
theorem ltS_trans {x y z : Str} (h1 : ltS x y = true) (h2 : ltS y z = true) : ltS x z = true := by
  unfold ltS at *
  exact decide_eq_true (List.lt_trans (of_decide_eq_true h1) (of_decide_eq_true h2))
theorem lexS_irrefl : ∀ xs : List Str, lexS xs xs = false
  | [] => rfl
  | x :: xs => by
    show (if x = x then lexS xs xs else ltS x x) = false
    rw [if_pos rfl]
    exact lexS_irrefl xs
theorem lexS_asymm : ∀ {xs ys : List Str}, lexS xs ys = true → lexS ys xs = false
  | [], [], h => by cases h
  | [], _ :: _, _ => rfl
  | _ :: _, [], h => by cases h
  | x :: xs, y :: ys, h => by
    have h' : (if x = y then lexS xs ys else ltS x y) = true := h
    show (if y = x then lexS ys xs else ltS y x) = false
    by_cases e : x = y
    · rw [if_pos e] at h'
      rw [if_pos e.symm]
      exact lexS_asymm h'
    · rw [if_neg e] at h'
      rw [if_neg fun q => e q.symm]
      exact ltS_asymm h'
end L2.G42

set_option Elab.async false
set_option linter.all false
set_option maxRecDepth 100000
set_option maxHeartbeats 4000000
namespace L2.G42
open PySem PySem.Spec PyProof.Rows Srt
theorem lexS_conn : ∀ {xs ys : List Str}, lexS xs ys = false → lexS ys xs = false → xs = ys
  | [], [], _, _ => rfl
  | [], _ :: _, h, _ => by cases h
  | _ :: _, [], _, h => by cases h
  | x :: xs, y :: ys, h1, h2 => by
    have h1' : (if x = y then lexS xs ys else ltS x y) = false := h1
    have h2' : (if y = x then lexS ys xs else ltS y x) = false := h2
    by_cases e : x = y
    · subst e
      rw [if_pos rfl] at h1' h2'
      rw [lexS_conn h1' h2']
    · rw [if_neg e] at h1'
      rw [if_neg (fun q => e q.symm)] at h2'
      exact absurd (ltS_conn h1' h2') e
theorem lexS_trans : ∀ {xs ys zs : List Str}, lexS xs ys = true → lexS ys zs = true → lexS xs zs = true
  | [], [], _, h, _ => by cases h
  | [], _ :: _, [], _, h => by cases h
  | [], _ :: _, _ :: _, _, _ => rfl
  | _ :: _, [], _, h, _ => by cases h
  | _ :: _, _ :: _, [], _, h => by cases h
  | x :: xs, y :: ys, z :: zs, h1, h2 => by
    have h1' : (if x = y then lexS xs ys else ltS x y) = true := h1
    have h2' : (if y = z then lexS ys zs else ltS y z) = true := h2
    show (if x = z then lexS xs zs else ltS x z) = true
    by_cases e : x = y
    · subst e
      rw [if_pos rfl] at h1'
      by_cases e2 : x = z
      · subst e2
        rw [if_pos rfl] at h2' ⊢
        exact lexS_trans h1' h2'
      · rw [if_neg e2] at h2' ⊢
        exact h2'
    · rw [if_neg e] at h1'
      by_cases e2 : y = z
      · subst e2
        rw [if_neg e]
        exact h1'
      · rw [if_neg e2] at h2'
        have h3 := ltS_trans h1' h2'
        by_cases e3 : x = z
        · subst e3
          rw [ltS_irrefl] at h3
          cases h3
        · rw [if_neg e3]
          exact h3
/-- a total order carried over a function -/
theorem swo_of {α β : Type} {lt : β → β → Bool} (as : ∀ {x y}, lt x y = true → lt y x = false) (cn : ∀ {x y}, lt x y = false → lt y x = false → x = y) (tr : ∀ {x y z}, lt x y = true → lt y z = true → lt x z = true) (k : α → β) : SrtO.Swo fun x y => lt (k x) (k y) := by
  refine ⟨fun x y h => as h, fun x y z h1 h2 => ?_⟩
  cases e : lt (k z) (k x) with
  | false => rfl
  | true =>
    cases f : lt (k x) (k y) with
    | false =>
      have := cn f h1
      simp only [this] at e
      rw [h2] at e
      cases e
    | true =>
      have := tr e f
      rw [h2] at this
      cases this
theorem swo_lexS {α : Type} (k : α → List Str) : SrtO.Swo fun x y => lexS (k x) (k y) := swo_of lexS_asymm lexS_conn lexS_trans k
theorem swo_ltS {α : Type} (k : α → Str) : SrtO.Swo fun x y => ltS (k x) (k y) := swo_of ltS_asymm ltS_conn ltS_trans k
/-- a tuple of texts in a heap of the model -/
def TupS (h : Heap) (v : Value) (xs : List Str) : Prop := ∃ t items, v = .ref t ∧ IsTup h t items ∧ StrsAre items.toList xs
theorem TupS.keeps {h h' : Heap} {v : Value} {xs : List Str} (T : TupS h v xs) (k : ∀ b o, h.get? b = some o → o.cls = .type "tuple" → h'.get? b = some o) : TupS h' v xs := by
  obtain ⟨t, items, rfl, ⟨o, ho, hc, n, hd⟩, hs⟩ := T
  exact ⟨t, items, rfl, ⟨o, k _ _ ho hc, hc, n, hd⟩, hs⟩
theorem tups_of {h : Heap} : ∀ {vs : List Value} {k : Value → List Str}, (∀ v ∈ vs, TupS h v (k v)) → ∃ fs, Tups h vs fs ∧ ∀ v rest, vs = v :: rest → k v = [] → ∃ gs, fs = none :: gs
  | [], _, _ => ⟨[], trivial, fun v rest e => by cases e⟩
  | v :: vs, k, hp => by
    obtain ⟨fs, h1, _⟩ := tups_of (vs := vs) (k := k) fun u hu => hp u (List.mem_cons_of_mem _ hu)
    obtain ⟨t, items, rfl, ⟨o, ho, hc, n, hd⟩, hs⟩ := hp v List.mem_cons_self
    refine ⟨items[0]? :: fs, ⟨⟨t, o, items, n, rfl, ho, hc, hd, rfl⟩, h1⟩, fun u rest e hk => ⟨fs, ?_⟩⟩
    cases e
    rw [hk] at hs
    have : items.toList = [] := by
      cases hs' : items.toList with
      | nil => rfl
      | cons a b => rw [hs'] at hs; cases hs
    have e2 : items = #[] := Array.toList_inj.mp this
    rw [e2]
    rfl
section
variable {prog : Program} {w : World} {A : Around} {E : Value → Shared → Prop} {s : Shared}
theorem tups_cmp {vs : List Value} {k : Value → List Str} (hp : ∀ v ∈ vs, TupS s.heap v (k v)) (hu : A.units < cLine) : SrtO.Cmp prog w A s oneType' (fun p => p.1 ∈ vs) (SrtO.lt2 fun v u => lexS (k v) (k u)) := by
  intro p q hm hm'
  have h1 := hp _ hm
  have h2 := hp _ hm'
  show wpAny (model prog w) A (keyLt' oneType' p.1 q.1) (fun r s' => s' = s ∧ r = lexS (k p.1) (k q.1)) (fun _ _ => False) s
  generalize k p.1 = x at h1 ⊢
  generalize k q.1 = y at h2 ⊢
  obtain ⟨t, items, e, ht, hs⟩ := h1
  obtain ⟨t', items', e', ht', hs'⟩ := h2
  rw [e, e', keyLt'_oneType]
  exact oneLt_tupStrs ht ht' hs hs' hu ⟨rfl, rfl⟩
theorem tups_sortableO {a : Addr} {vs : List Value} {k : Value → List Str} (hp : ∀ v ∈ vs, TupS s.heap v (k v)) (h0 : ∃ v rest, vs = v :: rest ∧ k v = []) (ha : ∀ o, s.heap.get? a = some o → o.cls ≠ .type "tuple") (hu : A.units < cLine) : SrtO.SortableO prog w A s a vs fun v u => lexS (k v) (k u) := by
  intro h' keep
  have hp' : ∀ v ∈ vs, TupS h' v (k v) := fun v hm => (hp v hm).keeps fun b o e c => keep b o (fun z => by subst z; exact ha o e c) e
  obtain ⟨fs, h1, h2⟩ := tups_of hp'
  obtain ⟨v, rest, e, hk⟩ := h0
  obtain ⟨gs, rfl⟩ := h2 v rest e hk
  exact ⟨oneType', fun Q E hq => tups_kind (s := { s with heap := h' }) h1 hq, tups_cmp (s := { s with heap := h' }) hp' hu⟩
theorem sorted_tups {l : Addr} {vs : List Value} {k : Value → List Str} {Q : Value → Shared → Prop} (hl : s.heap.IsList l vs.toArray) (hz : vs.length ≤ sizeLine) (hp : ∀ v ∈ vs, TupS s.heap v (k v)) (h0 : ∃ v rest, vs = v :: rest ∧ k v = []) (hu : A.units + 2 < cLine)
    (h : ∀ (h' : Heap) (d : Addr) (out : List Value), SrtO.Srtd (fun v u => lexS (k v) (k u)) out → SrtO.Stb (fun v u => lexS (k v) (k u)) out vs → (∀ b o, s.heap.get? b = some o → h'.get? b = some o) → s.heap.objs.size ≤ d → (∃ n, h'.get? d = some (seqObj "list" out.toArray n)) → Q (.ref d) { s with heap := h' }) :
    wpAny (model prog w) A (call (.builtin "sorted") [.ref l]) Q E s := by
  refine SrtO.sorted_ord (swo_lexS k) hl hz (fun h2 h₁ a ha kk => ?_) fun out hs hb => ?_
  · refine tups_sortableO (s := { s with heap := h₁ }) (fun v hm => (hp v hm).keeps fun b o e _ => (kk b o e).2) h0 (fun o e => ?_) (by show A.units + 1 + 1 < cLine; omega)
    have e' : some o = some (seqObj "list" vs.toArray 0) := e.symm.trans ha
    cases e'
    intro c
    exact absurd (Value.type.inj c) (by decide)
  · exact h _ _ out hs hb (fun b o e => sortedAll_old e) (Nat.le_succ _) (sortedAll_at s.heap vs out.toArray)
end
theorem strs_are : ∀ {xs : List Str} {us : List Value}, Vals (xs.map V.str) us → StrsAre us xs
  | [], _, .nil => .nil
  | x :: xs, _ :: us, .cons r t => by
    obtain ⟨k, rfl⟩ := r
    exact .cons x k (strs_are t)
/-- sorted(xs), xs a list of tuples of texts, the first of them empty -/
def rSortedTS (K : PySem.W.Frag) : List V → Hp → VK → Prop := fun vs H Q => ∃ (a : Addr) (xs : List V) (k : V → List Str), vs = [V.ref a] ∧ SqL K H a xs ∧ (∀ x ∈ xs, ∃ t, x = V.ref t ∧ H t = some (.tup ((k x).map V.str))) ∧ (∃ x rest, xs = x :: rest ∧ k x = []) ∧
  ∀ ys p, SrtO.Srtd (ltT k) ys → SrtO.Stb (ltT k) ys xs → H p = none → Q (.ref p) (upd H p (.lst ys))
section
variable {X : Cx}
theorem cr_sortedTS (hu : X.A.units + 64 < cLine) : CallR X (.builtin "sorted") (rSortedTS X.K) := by
  intro pins s σ H vs us Q I r h
  obtain ⟨a, xs, k, rfl, hs, hx, ⟨x0, xr, e0, k0⟩, q⟩ := h
  obtain ⟨its, rv, hl, hz⟩ := I.list hs
  obtain ⟨u, rfl, ru⟩ := vals1 r
  obtain rfl : u = Value.ref a := ru
  obtain ⟨e1, e2⟩ := refs_back rv fun x m => by
    obtain ⟨t, e, _⟩ := hx x m
    exact ⟨t, e⟩
  refine sorted_tups (k := fun u => k (backV u)) hl.isList (by rw [← rv.length]; exact hz) (fun v hv => ?_) ?_ (by omega) fun h' d out h1 h2 kp hd hn => ?_
  · obtain ⟨t, rfl⟩ := e2 v hv
    have hm : V.ref t ∈ xs := by rw [e1]; exact List.mem_map.mpr ⟨_, hv, rfl⟩
    obtain ⟨t', e, ht⟩ := hx _ hm
    cases e
    obtain ⟨_, its2, r2, o, ho, hc, n, hd⟩ := I.hok _ _ ht
    exact ⟨t, its2.toArray, rfl, ⟨o, ho, hc, n, hd⟩, (show StrsAre its2 (k (V.ref t)) from strs_are r2)⟩
  · rw [e0] at e1
    cases its with
    | nil => cases e1
    | cons v rest =>
      injection e1 with e3 e4
      exact ⟨v, rest, rfl, by rw [← e3]; exact k0⟩
  · have h3 : ∀ u ∈ out, ∃ a, u = Value.ref a := fun u hu => e2 u (h2.perm.mem_iff.mp hu)
    obtain ⟨n, hn⟩ := hn
    have hb : SrtO.Stb (ltT k) (out.map backV) xs := by
      rw [e1]
      exact SrtO.Stb.map (swo_lexS k) backV h2
    refine ⟨.ref d, upd H d (.lst (out.map backV)), I.laid (t' := s.toks) kp hd ⟨?_, out, n, vals_back h3, hn⟩, rfl, q _ d (SrtO.srtd_map h1) hb (I.hok.fresh hd)⟩
    rw [hb.len]
    exact hz
end
end L2.G42

set_option Elab.async false
set_option linter.all false
set_option maxRecDepth 100000
set_option maxHeartbeats 4000000
namespace L2.G42
open PySem PySem.Spec PyProof.Rows Srt
section
open PySem.SeqAt
open PySem.AutoSeq1 (wpAny_loadPart')
open PySem.MeetsSeq PySem.MeetsSeq2 PySem.MeetsSeq3
/-- [a, ..] < [c, ..], a and c different texts -/
theorem list_lt_first (l b : Addr) (items items2 : Array Value) (n n2 : Nat) (dd dd2 : Option Addr) (sl sl2 : Array (Option Value)) (a c : Str) (t u : Tok) (ne : a ≠ c) (h1 : items[0]? = some (.str a t)) (h2 : items2[0]? = some (.str c u)) :
    Meets (Builtin.«list.__lt__» ⟨[.ref l, .ref b], []⟩)
      (fun A R s => s.heap.get? l = some { cls := .type "list", dict := dd, data := .seq items n, slots := sl } ∧ s.heap.get? b = some { cls := .type "list", dict := dd2, data := .seq items2 n2, slots := sl2 } ∧ R (.ok (.ret (.bool (ltS a c)))) s) := by
  intro prog w A R s h
  obtain ⟨hp, g, d, tk, os⟩ := s; obtain ⟨hl, hb, h⟩ := h
  have f3 := AutoSeq1.sub_list_list
  wp_walk using wpAny_loadPart' hl, wpAny_loadPart' hb
  refine ⟨plainId_quiet plain_eq_loop _, codeAny_builtin entry_eq_loop ?_⟩
  rw [Around.under_plainId plain_eq_loop _]
  have key : Meets (Builtin.«list.__eq__.loop» ⟨[.ref l, .ref b, rawInt (0 : Nat), rawInt 0], []⟩)
      (fun A R s => s.heap.get? l = some { cls := .type "list", dict := dd, data := .seq items n, slots := sl } ∧ s.heap.get? b = some { cls := .type "list", dict := dd2, data := .seq items2 n2, slots := sl2 } ∧ R (.ok (.ret (.bool (ltS a c)))) s) := by
    intro prog w A R s h
    obtain ⟨hp, g, d, tk, os⟩ := s; obtain ⟨hl, hb, h⟩ := h
    wp_walk using wpAny_loadPart' hl, wpAny_loadPart' hb
    have hi1 : items[((0 : Nat) : Int).toNat]? = some (.str a t) := h1
    have hi2 : items2[((0 : Nat) : Int).toNat]? = some (.str c u) := h2
    rw [hi1, hi2]
    have he := SeqAt.EqAt.str_str (A := A.in1) (s := ⟨hp, g, d, tk, os⟩) a t c u
    refine wpAny_bind (he prog w _ _ ?_)
    have e : (a == c) = false := by simpa using ne
    rw [e]
    wp_walk using wpAny_loadPart' hl, wpAny_loadPart' hb
    rw [hi1, hi2]
    have hri := rcLt_str A.in1 ⟨hp, g, d, tk, os⟩ a t c u prog w
    wp_walk using hri
    exact h
  exact key prog w A R _ ⟨hl, hb, h⟩
end
section
variable {prog : Program} {w : World} {A : Around} {E : Value → Shared → Prop} {s : Shared}
theorem oneLt_listFirst {l b : Addr} {items items2 : Array Value} {a c : Str} {t u : Tok} {Q : Bool → Shared → Prop} (hl : s.heap.IsList l items) (hb : s.heap.IsList b items2) (h1 : items[0]? = some (.str a t)) (h2 : items2[0]? = some (.str c u)) (ne : a ≠ c)
    (hu : A.units < cLine) (h : Q (ltS a c) s) : wpAny (model prog w) A (oneLt' true (.ref l) (.ref b)) Q E s := by
  obtain ⟨⟨cls, dd, data, sl⟩, ho, hc, n, hd⟩ := id hl
  obtain ⟨⟨cls2, dd2, data2, sl2⟩, ho2, hc2, n2, hd2⟩ := id hb
  simp only at hc hd hc2 hd2
  subst hc hd hc2 hd2
  rw [oneLt'_eq]
  simp only [if_true]
  refine wpAny_bind (wpAny_cRoomFor hu ?_)
  refine wpAny_bind (wpAny_callSpecialIfBound?_slot (T := "list") ⟨_, ho, rfl⟩ PySem.F.slot_list_lt (call_meets PySem.F.slot_list_lt ⟨_, ho, rfl⟩ PySem.F.entry_list_lt (PySem.F.args_list_lt_2 _ _) (list_lt_first l b items items2 n n2 dd dd2 sl sl2 a c t u ne h1 h2) ⟨ho, ho2, ?_⟩))
  exact wpAny_truthy_bool h
end
/-- a list whose first item is a text -/
def LstS (h : Heap) (v : Value) (x : Str) : Prop := ∃ l items t, v = .ref l ∧ h.IsList l items ∧ items[0]? = some (.str x t)
theorem LstS.keeps {h h' : Heap} {v : Value} {x : Str} (T : LstS h v x) (k : ∀ b o, h.get? b = some o → .ref b = v → h'.get? b = some o) : LstS h' v x := by
  obtain ⟨l, items, t, rfl, ⟨o, ho, hc, n, hd⟩, hs⟩ := T
  exact ⟨l, items, t, rfl, ⟨o, k _ _ ho rfl, hc, n, hd⟩, hs⟩
section
variable {prog : Program} {w : World} {A : Around} {E : Value → Shared → Prop} {s : Shared}
theorem firstLt_all {e r : Nat → Bool} {fin : Bool} (he : ∀ j, e j = true) : ∀ l : List Nat, PySem.SeqAt.firstLt e r fin l = fin
  | [] => rfl
  | j :: l => by
    rw [PySem.SeqAt.firstLt_yes (he j)]
    exact firstLt_all he l
theorem oneLt_listSelf {l : Addr} {items : Array Value} {Q : Bool → Shared → Prop} (hl : s.heap.IsList l items) (hu : A.units < cLine) (h : Q false s) : wpAny (model prog w) A (oneLt' true (.ref l) (.ref l)) Q E s := by
  obtain ⟨o, ho, hc, n, hd⟩ := id hl
  rw [oneLt'_eq]
  simp only [if_true]
  refine wpAny_bind (wpAny_cRoomFor hu ?_)
  refine wpAny_bind (wpAny_callSpecialIfBound?_slot (T := "list") ⟨_, ho, hc⟩ PySem.F.slot_list_lt (PySem.SeqAt.call_list_lt (e := fun _ => true) (r := fun _ => false) hl hl (fun j j1 j2 => PySem.SeqAt.EqAt.same _) (fun j j1 j2 hj => by cases hj) ?_))
  rw [firstLt_all (fun _ => rfl)]
  have e : decide (items.size < items.size) = false := decide_eq_false (Nat.lt_irrefl _)
  rw [e]
  exact wpAny_truthy_bool h
theorem lsts_cmp {vs : List Value} {k : Value → Str} (hp : ∀ v ∈ vs, LstS s.heap v (k v)) (hne : ∀ v ∈ vs, ∀ u ∈ vs, k v = k u → v = u) (hu : A.units < cLine) : SrtO.Cmp prog w A s oneType' (fun p => p.1 ∈ vs) (SrtO.lt2 fun v u => ltS (k v) (k u)) := by
  intro p q hm hm'
  have h1 := hp _ hm
  have h2 := hp _ hm'
  have h3 := hne _ hm _ hm'
  show wpAny (model prog w) A (keyLt' oneType' p.1 q.1) (fun r s' => s' = s ∧ r = ltS (k p.1) (k q.1)) (fun _ _ => False) s
  by_cases e0 : k p.1 = k q.1
  · rw [← h3 e0, keyLt'_oneType, ltS_irrefl]
    obtain ⟨t, items, tk, e, ht, hs⟩ := h1
    rw [e]
    exact oneLt_listSelf ht hu ⟨rfl, rfl⟩
  · generalize k p.1 = x at h1 e0 ⊢
    generalize k q.1 = y at h2 e0 ⊢
    obtain ⟨t, items, tk, e, ht, hs⟩ := h1
    obtain ⟨t', items', tk', e', ht', hs'⟩ := h2
    rw [e, e', keyLt'_oneType]
    exact oneLt_listFirst ht ht' hs hs' e0 hu ⟨rfl, rfl⟩
theorem lsts_sortableO {a : Addr} {vs : List Value} {k : Value → Str} (hp : ∀ v ∈ vs, LstS s.heap v (k v)) (hne : ∀ v ∈ vs, ∀ u ∈ vs, k v = k u → v = u) (h2 : 2 ≤ vs.length) (ha : Value.ref a ∉ vs) (hu : A.units < cLine) : SrtO.SortableO prog w A s a vs fun v u => ltS (k v) (k u) := by
  intro h' keep
  have hp' : ∀ v ∈ vs, LstS h' v (k v) := fun v hm => (hp v hm).keeps fun b o e c => keep b o (fun z => by subst z; rw [c] at ha; exact ha hm) e
  refine ⟨oneType', fun Q E hq => PySem.W.kas_kind (s := { s with heap := h' }) (T := .type "list") h2 (fun v hv => ?_) (by decide +kernel) (by decide +kernel) hq, lsts_cmp (s := { s with heap := h' }) hp' hne hu⟩
  obtain ⟨t, items, tk, rfl, ⟨o, ho, hc, n, hd⟩, hs⟩ := hp' v hv
  have h : PySem.W.Looks (model prog w) h' (typeOf (.ref t)) o.cls := (PySem.W.Looks.ld ho).andThen .now
  rw [hc] at h
  exact h
theorem sorted_lsts {l : Addr} {vs : List Value} {k : Value → Str} {Q : Value → Shared → Prop} (hl : s.heap.IsList l vs.toArray) (hz : vs.length ≤ sizeLine) (hp : ∀ v ∈ vs, LstS s.heap v (k v)) (hne : ∀ v ∈ vs, ∀ u ∈ vs, k v = k u → v = u) (hu : A.units + 2 < cLine)
    (h : ∀ (h' : Heap) (d : Addr) (out : List Value), SrtO.Srtd (fun v u => ltS (k v) (k u)) out → SrtO.Stb (fun v u => ltS (k v) (k u)) out vs → (∀ b o, s.heap.get? b = some o → h'.get? b = some o) → s.heap.objs.size ≤ d → (∃ n, h'.get? d = some (seqObj "list" out.toArray n)) → Q (.ref d) { s with heap := h' }) :
    wpAny (model prog w) A (call (.builtin "sorted") [.ref l]) Q E s := by
  refine SrtO.sorted_ord (swo_ltS k) hl hz (fun h2 h₁ a ha kk => ?_) fun out hs hb => ?_
  · refine lsts_sortableO (s := { s with heap := h₁ }) (fun v hm => (hp v hm).keeps fun b o e _ => (kk b o e).2) hne h2 (fun hm => ?_) (by show A.units + 1 + 1 < cLine; omega)
    obtain ⟨t, items, tk, e, ⟨o, ho, _⟩, _⟩ := hp _ hm
    injection e with e
    subst e
    exact (kk _ _ ho).1 rfl
  · exact h _ _ out hs hb (fun b o e => sortedAll_old e) (Nat.le_succ _) (sortedAll_at s.heap vs out.toArray)
end
/-- sorted(xs), xs a list of lists [text, ..] with different texts -/
def rSortedLS (K : PySem.W.Frag) : List V → Hp → VK → Prop := fun vs H Q => ∃ (a : Addr) (xs : List V) (k : V → Str), vs = [V.ref a] ∧ SqL K H a xs ∧ (∀ x ∈ xs, ∃ t zs, x = V.ref t ∧ SqL K H t (V.str (k x) :: zs)) ∧ (∀ x ∈ xs, ∀ y ∈ xs, k x = k y → x = y) ∧
  ∀ ys p, SrtO.Srtd (fun x y => ltS (k x) (k y)) ys → SrtO.Stb (fun x y => ltS (k x) (k y)) ys xs → H p = none → Q (.ref p) (upd H p (.lst ys))
section
variable {X : Cx}
theorem cr_sortedLS (hu : X.A.units + 64 < cLine) : CallR X (.builtin "sorted") (rSortedLS X.K) := by
  intro pins s σ H vs us Q I r h
  obtain ⟨a, xs, k, rfl, hs, hx, hne, q⟩ := h
  obtain ⟨its, rv, hl, hz⟩ := I.list hs
  obtain ⟨u, rfl, ru⟩ := vals1 r
  obtain rfl : u = Value.ref a := ru
  obtain ⟨e1, e2⟩ := refs_back rv fun x m => by
    obtain ⟨t, zs, e, _⟩ := hx x m
    exact ⟨t, e⟩
  refine sorted_lsts (k := fun u => k (backV u)) hl.isList (by rw [← rv.length]; exact hz) (fun v hv => ?_) (fun v hv u hu' e => ?_) (by omega) fun h' d out h1 h2 kp hd hn => ?_
  · obtain ⟨t, rfl⟩ := e2 v hv
    have hm : V.ref t ∈ xs := by rw [e1]; exact List.mem_map.mpr ⟨_, hv, rfl⟩
    obtain ⟨t', zs, e, ht⟩ := hx _ hm
    cases e
    obtain ⟨its2, r2, hl2, _⟩ := I.list ht
    cases r2 with
    | @cons _ _ _ us2 r3 r4 =>
      obtain ⟨tk, rfl⟩ := r3
      exact ⟨t, _, tk, rfl, hl2.isList, rfl⟩
  · obtain ⟨t, rfl⟩ := e2 v hv
    obtain ⟨t', rfl⟩ := e2 u hu'
    have hm : V.ref t ∈ xs := by rw [e1]; exact List.mem_map.mpr ⟨_, hv, rfl⟩
    have hm' : V.ref t' ∈ xs := by rw [e1]; exact List.mem_map.mpr ⟨_, hu', rfl⟩
    have := hne _ hm _ hm' e
    injection this with this
    rw [this]
  · have h3 : ∀ u ∈ out, ∃ a, u = Value.ref a := fun u hu => e2 u (h2.perm.mem_iff.mp hu)
    obtain ⟨n, hn⟩ := hn
    have hb : SrtO.Stb (fun x y => ltS (k x) (k y)) (out.map backV) xs := by
      rw [e1]
      exact SrtO.Stb.map (swo_ltS k) backV h2
    refine ⟨.ref d, upd H d (.lst (out.map backV)), I.laid (t' := s.toks) kp hd ⟨?_, out, n, vals_back h3, hn⟩, rfl, q _ d (SrtO.srtd_map h1) hb (I.hok.fresh hd)⟩
    rw [hb.len]
    exact hz
end
end L2.G42

set_option Elab.async false
set_option linter.all false
set_option maxRecDepth 100000
set_option maxHeartbeats 4000000
namespace L2.G42
open PySem PySem.Spec PyProof.Rows Srt
/-- a total order -/
structure Tot {β : Type} (lt : β → β → Bool) : Prop where
  as : ∀ {x y}, lt x y = true → lt y x = false
  cn : ∀ {x y}, lt x y = false → lt y x = false → x = y
  tr : ∀ {x y z}, lt x y = true → lt y z = true → lt x z = true
theorem tot_ltS : Tot ltS := ⟨ltS_asymm, ltS_conn, ltS_trans⟩
theorem tot_lexS : Tot lexS := ⟨lexS_asymm, lexS_conn, lexS_trans⟩
def srtBy {α β : Type} (lt : β → β → Bool) (k : α → β) (es : List α) : List α := es.mergeSort fun a b => !lt (k b) (k a)
/-- ascending by k -/
abbrev UpBy {α β : Type} (lt : β → β → Bool) (k : α → β) (es : List α) : Prop := es.Pairwise fun a b => lt (k a) (k b) = true
abbrev DiffBy {α β : Type} (k : α → β) (es : List α) : Prop := es.Pairwise fun a b => k a ≠ k b
section
variable {α β : Type} {lt : β → β → Bool} {k : α → β}
theorem srtBy_perm (es : List α) : (srtBy lt k es).Perm es := List.mergeSort_perm es _
theorem srtBy_mem {es : List α} {x : α} : x ∈ srtBy lt k es ↔ x ∈ es := (srtBy_perm es).mem_iff
theorem srtBy_len {es : List α} : (srtBy lt k es).length = es.length := (srtBy_perm es).length_eq
theorem DiffBy.perm {es fs : List α} (h : DiffBy k es) (p : fs.Perm es) : DiffBy k fs := (p.pairwise_iff (fun {a b} h e => h e.symm)).mpr h
theorem DiffBy.of {es : List α} (h : (es.map k).Nodup) : DiffBy k es := List.pairwise_map.mp h
theorem DiffBy.nd {es : List α} (h : DiffBy k es) : (es.map k).Nodup := List.pairwise_map.mpr h
theorem srtBy_up (O : Tot lt) {es : List α} (h : DiffBy k es) : UpBy lt k (srtBy lt k es) := by
  have a := List.pairwise_mergeSort (le := fun a b => !lt (k b) (k a)) (fun a b c h1 h2 => ?_) (fun a b => ?_) es
  · have b := h.perm (srtBy_perm (lt := lt) (k := k) es)
    refine List.Pairwise.imp₂ (fun x y h1 h2 => ?_) a b
    cases e : lt (k x) (k y) with
    | true => rfl
    | false =>
      have e2 : lt (k y) (k x) = false := by simpa using h1
      exact absurd (O.cn e e2) h2
  · have h1' : lt (k b) (k a) = false := by simpa using h1
    have h2' : lt (k c) (k b) = false := by simpa using h2
    have := (swo_of O.as O.cn O.tr k).tr a b c h1' h2'
    simpa using this
  · cases e : lt (k a) (k b) with
    | false => simp
    | true => simp [O.as e]
theorem up_uniq (O : Tot lt) : ∀ {l m : List α}, l.Perm m → UpBy lt k l → UpBy lt k m → l = m
  | [], m, p, _, _ => (List.Perm.eq_nil p.symm).symm
  | x :: l, [], p, _, _ => absurd p.length_eq (by simp)
  | x :: l, y :: m, p, hl, hm => by
    have hl' := List.pairwise_cons.mp hl
    have hm' := List.pairwise_cons.mp hm
    have e : x = y := by
      rcases List.mem_cons.mp (p.mem_iff.mp (List.mem_cons_self (a := x) (l := l))) with e | hx
      · exact e
      · rcases List.mem_cons.mp (p.mem_iff.mpr (List.mem_cons_self (a := y) (l := m))) with e | hy
        · exact e.symm
        · have a := hm'.1 x hx
          have b := hl'.1 y hy
          rw [O.as b] at a
          cases a
    subst e
    rw [up_uniq O p.cons_inv hl'.2 hm'.2]
theorem UpBy.diff (O : Tot lt) {es : List α} (h : UpBy lt k es) : DiffBy k es := h.imp fun {a b} h e => by
  rw [e] at h
  have := O.as h
  rw [h] at this
  cases this
theorem srtBy_uniq (O : Tot lt) {es fs : List α} (p : fs.Perm es) (h : UpBy lt k fs) : fs = srtBy lt k es := up_uniq O (p.trans (srtBy_perm es).symm) h (srtBy_up O ((h.diff O).perm p.symm))
theorem srtBy_of_up (O : Tot lt) {es : List α} (h : UpBy lt k es) : srtBy lt k es = es := (srtBy_uniq O (List.Perm.refl _) h).symm
theorem srtBy_idem (O : Tot lt) {es : List α} (h : DiffBy k es) : srtBy lt k (srtBy lt k es) = srtBy lt k es := srtBy_of_up O (srtBy_up O h)
/-- carried over a map that keeps the keys -/
theorem srtBy_map (O : Tot lt) {γ : Type} {k2 : γ → β} {f : α → γ} (hf : ∀ a, k2 (f a) = k a) {es : List α} (h : DiffBy k es) : srtBy lt k2 (es.map f) = (srtBy lt k es).map f := by
  refine (srtBy_uniq O ((srtBy_perm es).map f) (List.pairwise_map.mpr ?_)).symm
  exact (srtBy_up O h).imp fun {a b} q => by rw [hf, hf]; exact q
end
/-- sorted(xs), xs a list of lists [text, ..] with different texts -/
def rSortLS (K : PySem.W.Frag) : List V → Hp → VK → Prop := fun vs H Q => ∃ (α : Type) (v : α → V) (k : α → Str) (es : List α) (a : Addr), vs = [V.ref a] ∧ SqL K H a (es.map v) ∧ (∀ e ∈ es, ∃ t zs, v e = V.ref t ∧ SqL K H t (V.str (k e) :: zs)) ∧ DiffBy k es ∧
  ∀ p, H p = none → Q (.ref p) (upd H p (.lst ((srtBy ltS k es).map v)))
/-- sorted(xs), xs a list of tuples of texts, different ones, the first of them empty -/
def rSortTS (K : PySem.W.Frag) : List V → Hp → VK → Prop := fun vs H Q => ∃ (α : Type) (v : α → V) (k : α → List Str) (es : List α) (a : Addr), vs = [V.ref a] ∧ SqL K H a (es.map v) ∧ (∀ e ∈ es, ∃ t, v e = V.ref t ∧ H t = some (.tup ((k e).map V.str))) ∧ DiffBy k es ∧ (∃ x rest, es = x :: rest ∧ k x = []) ∧
  ∀ p, H p = none → Q (.ref p) (upd H p (.lst ((srtBy lexS k es).map v)))
theorem stb_is {α β : Type} {lt : β → β → Bool} (O : Tot lt) {k : α → β} {v : α → V} {kk : V → β} {es : List α} {ys : List V} (hk : ∀ e ∈ es, kk (v e) = k e) (hd : DiffBy k es) (h1 : SrtO.Srtd (fun x y => lt (kk x) (kk y)) ys) (h2 : SrtO.Stb (fun x y => lt (kk x) (kk y)) ys (es.map v)) : ys = (srtBy lt k es).map v := by
  have p1 : ys.Perm ((srtBy lt k es).map v) := h2.perm.trans ((srtBy_perm es).map v).symm
  have u2 : UpBy lt kk ((srtBy lt k es).map v) := by
    refine List.pairwise_map.mpr ?_
    refine List.Pairwise.imp_of_mem (fun {a b} ha hb h => ?_) (srtBy_up O hd)
    rw [hk a (srtBy_mem.mp ha), hk b (srtBy_mem.mp hb)]
    exact h
  have d1 : DiffBy kk ys := (u2.diff O).perm p1
  refine up_uniq O p1 ?_ u2
  refine List.Pairwise.imp₂ (fun x y h1 h2 => ?_) h1 d1
  cases e : lt (kk x) (kk y) with
  | true => rfl
  | false => exact absurd (O.cn e h1) h2
def strOf : V → Str
  | .str x => x
  | _ => ""
theorem strOf_map : ∀ xs : List Str, (xs.map V.str).map strOf = xs
  | [] => rfl
  | x :: xs => by rw [List.map_cons, List.map_cons, strOf_map xs]; rfl
/-- the texts of the tuple at a place of the heap -/
def strsAt (H : Hp) : V → List Str
  | .ref t => match H t with
    | some (.tup vs) => vs.map strOf
    | _ => []
  | _ => []
section
variable {X : Cx}
theorem cr_sortTS (hu : X.A.units + 64 < cLine) : CallR X (.builtin "sorted") (rSortTS X.K) := by
  intro pins s σ H vs us Q I r h
  obtain ⟨α, v, k, es, a, rfl, hs, hx, hd, ⟨x0, xr, e0, k0⟩, q⟩ := h
  have hk : ∀ e ∈ es, strsAt H (v e) = k e := fun e he => by
    obtain ⟨t, ht, h2⟩ := hx e he
    rw [ht]
    unfold strsAt
    simp only [h2]
    exact strOf_map _
  refine cr_sortedTS hu pins s σ H _ us Q I r ⟨a, es.map v, strsAt H, rfl, hs, fun x hm => ?_, ?_, fun ys p h1 h2 hp => ?_⟩
  · obtain ⟨e, he, rfl⟩ := List.mem_map.mp hm
    obtain ⟨t, ht, h2⟩ := hx e he
    exact ⟨t, ht, by rw [hk e he]; exact h2⟩
  · refine ⟨v x0, xr.map v, by rw [e0]; rfl, ?_⟩
    rw [hk x0 (by rw [e0]; exact List.mem_cons_self)]
    exact k0
  · rw [stb_is tot_lexS hk hd h1 h2]
    exact q p hp
theorem sql_fun {pins : List (Addr × Obj)} {σ : St} {H : Hp} {s : Shared} (I : Inv X pins σ H s) {a : Addr} {x y : Str} {xs ys : List V} (h1 : SqL X.K H a (.str x :: xs)) (h2 : SqL X.K H a (.str y :: ys)) : x = y := by
  obtain ⟨its, r1, l1, _⟩ := I.list h1
  obtain ⟨its2, r2, l2, _⟩ := I.list h2
  obtain ⟨o, ho, hc, n, hd⟩ := l1.isList
  obtain ⟨o', ho', hc', n', hd'⟩ := l2.isList
  rw [ho] at ho'
  obtain rfl := Option.some.inj ho'
  rw [hd] at hd'
  injection hd' with e _
  have e : its = its2 := by simpa using e
  subst e
  cases r1 with
  | cons a1 _ =>
    cases r2 with
    | cons a2 _ =>
      obtain ⟨t1, rfl⟩ := a1
      obtain ⟨t2, e⟩ := a2
      injection e
theorem cr_sortLS (hu : X.A.units + 64 < cLine) : CallR X (.builtin "sorted") (rSortLS X.K) := by
  intro pins s σ H vs us Q I r h
  obtain ⟨α, v, k, es, a, rfl, hs, hx, hd, q⟩ := h
  classical
  let kk : V → Str := fun x => if h : ∃ e, e ∈ es ∧ v e = x then k h.choose else ""
  have inj : ∀ e ∈ es, ∀ f ∈ es, v e = v f → k e = k f := fun e he f hf h => by
    obtain ⟨t, zs, h1, h2⟩ := hx e he
    obtain ⟨t', zs', h1', h2'⟩ := hx f hf
    rw [h1, h1'] at h
    injection h with h
    subst h
    exact sql_fun I h2 h2'
  have hk : ∀ e ∈ es, kk (v e) = k e := fun e he => by
    have h : ∃ f, f ∈ es ∧ v f = v e := ⟨e, he, rfl⟩
    show (if h : ∃ f, f ∈ es ∧ v f = v e then k h.choose else "") = k e
    rw [dif_pos h]
    exact inj _ h.choose_spec.1 _ he h.choose_spec.2
  refine cr_sortedLS hu pins s σ H _ us Q I r ⟨a, es.map v, kk, rfl, hs, fun x hm => ?_, fun x hm y hm' e => ?_, fun ys p h1 h2 hp => ?_⟩
  · obtain ⟨e, he, rfl⟩ := List.mem_map.mp hm
    obtain ⟨t, zs, ht, h2⟩ := hx e he
    exact ⟨t, zs, ht, by rw [hk e he]; exact h2⟩
  · obtain ⟨e1, he1, rfl⟩ := List.mem_map.mp hm
    obtain ⟨e2, he2, rfl⟩ := List.mem_map.mp hm'
    rw [hk e1 he1, hk e2 he2] at e
    have := hd.nd
    have e3 : e1 = e2 := by
      obtain ⟨i, hi, rfl⟩ := List.getElem_of_mem he1
      obtain ⟨j, hj, rfl⟩ := List.getElem_of_mem he2
      have : i = j := by
        rcases Nat.lt_trichotomy i j with h | h | h
        · exact absurd e (List.pairwise_iff_getElem.mp hd i j hi hj h)
        · exact h
        · exact absurd e.symm (List.pairwise_iff_getElem.mp hd j i hj hi h)
      subst this
      rfl
    rw [e3]
  · rw [stb_is tot_ltS hk hd h1 h2]
    exact q p hp
end
end L2.G42

set_option Elab.async false
set_option linter.all false
set_option maxRecDepth 100000
set_option maxHeartbeats 4000000
namespace L2.G42
open PySem PySem.Spec PyProof.Rows
/-! dict comprehensions whose keys are tuples -/
theorem set_dT {X : Cx} {pins : List (Addr × Obj)} {σ : St} {H : Hp} {s : Shared} {E : Value → Shared → Prop} {D b : Addr} {kvs : List (List Key × V)} {k : List Key} {z : V} {r : Value} {Q : Unit → Shared → Prop} (hu : X.A.units + 1 < cLine) (I : Inv X pins σ H s) (eD : H D = some (.dT kvs)) (eb : H b = some (.tup (k.map kV))) (few : kvs.length < sizeLine)
    (rz : RelV z r) (h : ∀ s', Inv X pins σ (upd H D (.dT (putK kvs k z))) s' → Q () s') : wpAny (model X.prog X.w) X.A (dictSet D (.ref b) r) Q E s := by
  obtain ⟨len, nsys, xs, rel, own⟩ := dt_of I.hok eD
  have l1 : xs.length ≤ sizeLine := by rw [← Paired.length rel]; exact len
  have l2 : (putK kvs k z).length ≤ sizeLine := by have := length_putK kvs k z; omega
  refine wpAny_dictSet_heap (hsz := l1) (show X.A.units < cLine by omega) (key_of I.hok eb) own fun h' own' same => h _ ?_
  obtain ⟨q, es, ep, q1, q2, q3, q4, _, q5⟩ := own'
  refine d_write I (by rw [eD]; trivial) same ⟨q, q1⟩ ⟨l2, nsys, _, (rel.put k eb rz).keeps fun c ys ec => ?_, q, es, ep, q1, q2, q3, q4, q5⟩
  rw [upd_ne (ne_of ec eD (fun z => nomatch z))]
  exact ec
section
variable {X : Cx}
/-- {k: v for target in iter if ..}, the keys tuples of ints and texts: N the new dict -/
def tDcT (wi : TI) (g : TG) (tt : TT) (tk tv : TE) (vs : List Nat) : TE := fun σ H Q => wi σ H fun J H1 => ∀ N, H1 N = none → ∃ V : Nat → Nat → Hp → Prop, (∃ m, V 0 m (upd H1 N (.dT []))) ∧ ∀ i m H, V i m H →
  (J.stop i H ∧ Q (.ref N) H) ∨ (J.go i H ∧ ∃ Z : Hp → Prop, (∀ H', Z H' → ∃ m', m' < m ∧ V (i + 1) m' H') ∧ ∀ x H', J.yld i H x H' → g x (wipe σ vs) H' fun σ2 H2 => wipe σ2 vs = wipe σ vs ∧ tt σ2 H2 fun b H3 =>
    if b = true then tk σ2 H3 fun y H4 => tv σ2 H4 fun z H5 => ∃ c kvs k, y = .ref c ∧ H5 c = some (.tup (k.map kV)) ∧ H5 N = some (.dT kvs) ∧ kvs.length < sizeLine ∧ Z (upd H5 N (.dT (putK kvs k z))) else Z H3)
theorem pe_dcT {kx vx tg iter : Expr} {ifs : List Expr} {scope : Scope} {own : List (Str × Nat)} {pos : Pos} {wi : TI} {g : TG} {tt : TT} {tk tv : TE} (hu : X.A.units + 1 < cLine) (calm : X.calm = true) (nd : X.N.Nodup) (walk : PI X tg iter wi) (blk : BlkOk X.N X.env.scope scope own)
    (target : ∀ (s : Shared) (H : Hp) (C : Addr) (cl : List (Str × Addr)) (fp : List Addr), PG (X.blk s H scope (compEnvC scope cl C X.env) fp) tg g)
    (tests : ∀ (s : Shared) (H : Hp) (C : Addr) (cl : List (Str × Addr)) (fp : List Addr), PTs (X.blk s H scope (compEnvC scope cl C X.env) fp) ifs tt)
    (key : ∀ (s : Shared) (H : Hp) (C : Addr) (cl : List (Str × Addr)) (fp : List Addr), PE (X.blk s H scope (compEnvC scope cl C X.env) fp) kx tk)
    (val : ∀ (s : Shared) (H : Hp) (C : Addr) (cl : List (Str × Addr)) (fp : List Addr), PE (X.blk s H scope (compEnvC scope cl C X.env) fp) vx tv)
    (fold : ∀ x, foldedSetIterable iter X.env x = pure x := by intro _; rfl) : PE X (.DictComp kx vx [⟨tg, iter, ifs, 0⟩] scope pos) (tDcT wi g tt tk tv (own.map (·.2))) := by
  refine ⟨fun pins s0 σ H0 Q I0 h0 => ?_⟩
  rw [arm_eval_DictComp]
  have cells : ∀ y ∈ scope.names, y.2 = .free → ∃ c, X.env.cells.lookup y.1 = some c := fun y hy e =>
    (blk.free y hy e).elim (fun k => I0.ok.has _ (.inl k)) (fun k => I0.ok.has _ (.inr k))
  refine wpAny_comprehension_free rfl fold (closure_ok cells) blk.kind (fun y hy e => by rw [blk.uniq y hy, e]) (thn (walk.run pins s0 σ H0 _ I0 h0) fun _ sA hA => thn hA fun _ sB hB => ?_)
  obtain ⟨itA, fp, cur, J, HB, rfl, IB, T, curB, fpB, post⟩ := hB
  refine wpAny_newObj_type (newEnv_comp ?_)
  generalize eN : sB.heap.objs.size = N
  obtain ⟨V, ⟨m0, V0⟩, each⟩ := post N (IB.hok.fresh (Nat.le_of_eq eN))
  generalize eC : ({ sB with heap := sB.heap.push { cls := .type "dict", data := .dict #[] } } : Shared) = sC
  have hC : sC.heap = sB.heap.push { cls := .type "dict", data := .dict #[] } := by subst eC; rfl
  have IC : Inv X pins σ (upd HB N (.dT [])) sC := by
    subst eC
    subst eN
    exact IB.laid (t' := sB.toks) (fun _ _ e => Heap.get?_push_of_some _ e) (Nat.le_refl _) (dt_empty sB.heap IB.big)
  have small : ∀ b ∈ fp, b < sB.heap.objs.size := fun b hb => let ⟨_, e, _⟩ := T.obj _ _ curB b hb; Heap.lt_size e
  have fpC : ∀ b ∈ fp, FpOk X pins (upd HB N (.dT [])) b ∧ b < sC.heap.objs.size := fun b hb =>
    ⟨⟨by rw [upd_ne (by rw [← eN]; exact Nat.ne_of_lt (small b hb))]; exact (fpB b hb).1, (fpB b hb).2⟩, by rw [hC, Heap.size_push]; exact Nat.lt_succ_of_lt (small b hb)⟩
  have curC : cur 0 sC.heap := T.keep _ _ _ curB fun b _ o e => by rw [hC]; exact Heap.get?_push_of_some _ e
  have ID := block_start IC blk nd fpC
  have p1 := target sC (upd HB N (.dT [])) sC.heap.objs.size (cellsFrom (sC.heap.objs.size + 1) scope.names (cloFrom X.env.cells scope.names [])) fp
  have p2 := tests sC (upd HB N (.dT [])) sC.heap.objs.size (cellsFrom (sC.heap.objs.size + 1) scope.names (cloFrom X.env.cells scope.names [])) fp
  have p3 := key sC (upd HB N (.dT [])) sC.heap.objs.size (cellsFrom (sC.heap.objs.size + 1) scope.names (cloFrom X.env.cells scope.names [])) fp
  have p4 := val sC (upd HB N (.dT [])) sC.heap.objs.size (cellsFrom (sC.heap.objs.size + 1) scope.names (cloFrom X.env.cells scope.names [])) fp
  show codeAny _ _ (.compStart (.DictComp kx vx [⟨tg, iter, ifs, 0⟩] scope pos) 0 (.ref itA) (.ref N) (compEnvC scope (cellsFrom (sC.heap.objs.size + 1) scope.names (cloFrom X.env.cells scope.names [])) sC.heap.objs.size X.env)) (compPost (model X.prog X.w) X.A X.xe none _ (.ref N) sC.heap.objs.size) { sC with heap := pushCells (sC.heap.push { cls := .type "dict", data := .dict #[] }) scope.names }
  have out : ∀ b ∈ fp, (upd HB N (.dT [])) b = none := fun b hb => (fpC b hb).1.1
  generalize eE : compEnvC scope (cellsFrom (sC.heap.objs.size + 1) scope.names (cloFrom X.env.cells scope.names [])) sC.heap.objs.size X.env = E at ID p1 p2 p3 p4 ⊢
  have loc : E.locals = sC.heap.objs.size := by subst eE; rfl
  generalize eH : upd HB N (.dT []) = HC at IC ID p1 p2 p3 p4 V0 out fpC
  generalize eD : ({ sC with heap := pushCells (sC.heap.push { cls := .type "dict", data := .dict #[] }) scope.names } : Shared) = sD at ID ⊢
  have curD : cur 0 sD.heap := T.keep _ _ _ curC fun b _ o e => by subst eD; exact pushCells_keeps _ _ _ _ (Heap.get?_push_of_some _ e)
  have held : ∀ {σ' : St} {H' : Hp} {s' : Shared}, Inv (X.blk sC HC scope E fp) [] σ' H' s' → (∀ b ∈ fp, H' b = none) → ∀ b ∈ fp, FpOk (X.blk sC HC scope E fp) [] H' b := fun {σ' H' s'} J' no b hb =>
    ⟨no b hb, (J'.ok.exf b hb).1, J'.ok.exfs b hb, .inl hb, fun x c e => (J'.ok.exf b hb).2 x c e, fun p hp => absurd hp (by simp [Cx.blk])⟩
  have loop : codeAny (model X.prog X.w) X.A (.compLoop (.DictComp kx vx [⟨tg, iter, ifs, 0⟩] scope pos) 0 (.ref itA) (.ref N) E) (compPost (model X.prog X.w) X.A X.xe none (EP X pins σ Q) (.ref N) sC.heap.objs.size) sD := by
    refine compLoop_anyD (fun n s' => ∃ i H', Inv (X.blk sC HC scope E fp) [] (wipe σ (own.map (·.2))) H' s' ∧ cur i s'.heap ∧ (∀ b ∈ fp, H' b = none) ∧ V i n H') ?_ m0 ⟨0, HC, ID, curD, out, V0⟩
    rintro n s5 ⟨i, H5, I5, c5, o5, V5⟩
    rcases each i n H5 V5 with ⟨stop, fin⟩ | ⟨go, Z, hZ, step⟩
    · refine thnF (T.done (X.blk sC HC scope E fp) rfl rfl rfl calm i [] s5 _ H5 (fun _ _ => False) I5 (held I5 o5) c5 stop) fun r s6 ⟨er, I6⟩ => ?_
      subst er
      have I7 : Inv X pins σ H5 s6 := IC.call' (ch := fp) I6.os I6.base I6.hok I6.bare fun b hb => ⟨(fpC b hb).1.2.2.2.1, (fpC b hb).1.2.1, (fpC b hb).1.2.2.2.2.1, (fpC b hb).1.2.2.2.2.2⟩
      have none5 : H5 sC.heap.objs.size = none := by
        rw [← loc]
        exact I6.free
      obtain ⟨m, ns, _⟩ := I6.loc
      have ns' : s6.heap.Ns sC.heap.objs.size m := by
        rw [← loc]
        exact ns
      obtain ⟨f0, f1, f2, f3, f4, f5⟩ := IC.fpOk (Nat.le_refl _) none5
      exact ⟨m, ns', fun h'' sb => ⟨.ref N, H5, I7.turned (t' := s6.toks) (fun b o hb e => (sb.2 b hb).trans e) f0 f1 f3 f4 f5, rfl, fin⟩⟩
    · refine thnF (T.item (X.blk sC HC scope E fp) rfl rfl rfl calm i [] s5 _ H5 (fun _ _ => False) I5 (held I5 o5) c5 go) fun r s6 ⟨u, er, h6⟩ => ?_
      subst er
      refine thnF h6 fun _ s7 ⟨x, H7, I7, r7, y7, c7, o7⟩ => ?_
      refine thnF (p1.run _ s7 _ H7 x u _ (I7.pinned (held I7 o7) (T.obj _ _ c7)) r7 (step x H7 y7)) fun _ s8 ⟨σ8, H8, I8, w8, q8⟩ => ?_
      refine thnF (p2.run _ s8 σ8 H8 _ I8 q8) fun b s9 ⟨H9, I9, q9⟩ => ?_
      have turn : ∀ {s' : Shared} {H' : Hp}, Inv (X.blk sC HC scope E fp) ([] ++ pinsAt fp s7.heap) σ8 H' s' → Z H' → ∃ m, m < n ∧ ∃ i H', Inv (X.blk sC HC scope E fp) [] (wipe σ (own.map (·.2))) H' s' ∧ cur i s'.heap ∧ (∀ b ∈ fp, H' b = none) ∧ V i m H' := fun {s' H'} J' z => by
        obtain ⟨m', lt, v'⟩ := hZ H' z
        have pin' : ∀ b ∈ fp, ∀ o, s7.heap.get? b = some o → s'.heap.get? b = some o ∧ H' b = none := fun b hb o e =>
          let y := J'.pin (b, o) (List.mem_append_right _ (List.mem_append_right _ (mem_pinsAt hb e)))
          ⟨y.1, y.2.1⟩
        refine ⟨m', lt, i + 1, H', (J'.unpinned (pins := [])).weak (by rw [← w8, wipe_length]) (fun j v e => ?_), T.keep _ _ _ c7 fun b hb o e => (pin' b hb o e).1, fun b hb => ?_, v'⟩
        · rw [← w8] at e
          exact (wipe_some e).1
        · obtain ⟨o, e, _⟩ := T.obj _ _ c7 b hb
          exact (pin' b hb o e).2
      cases b with
      | false =>
        simp only [Bool.false_eq_true, if_false] at q9 ⊢
        exact turn I9 q9
      | true =>
        simp only [if_true] at q9 ⊢
        refine thnF (p3.run _ s9 σ8 H9 _ I9 q9) fun ku sK ⟨yk, HK, IK, rk, qk⟩ => ?_
        refine thnF (p4.run _ sK σ8 HK _ IK qk) fun vu sV ⟨yv, HV, IV, rv, c, kvs, k, ek, ec, eN', few, z⟩ => ?_
        subst ek
        cases rk
        exact set_dT (X := X.blk sC HC scope E fp) hu IV eN' ec few rv fun s12 I12 => turn I12 z
  exact codeAny_compStart_dict loop (T.self X.A 0 _ _ _ curD loop)
end
end L2.G42

set_option Elab.async false
set_option linter.all false
set_option maxRecDepth 100000
set_option maxHeartbeats 4000000
namespace L2.G42
open PySem PySem.Spec PyProof.Rows
section
variable {X : Cx} {CX : CXT} {n : Nat} {C f : Addr} {fd : FuncData} {ps : List Str} {sp : Sp} {E : XK}
theorem env_in2 {pins : List (Addr × Obj)} {σ : St} {H : Hp} {s : Shared} (I : Inv X pins σ H s) : Env0 X.prog X.w X.K X.mg X.base X.A.in1.in1 X.stack s H := by
  have e := I.env0
  exact ⟨e.frames, e.mod, e.bs, e.bsz, e.funs, e.frf, e.hok, e.bare⟩
/-! str(o), repr(o), o[i] by own methods -/
def rShowO (C : Addr) (sp : Sp) (E : XK) : List V → Hp → VK → Prop := fun xs H Q => ∃ a dx fs, xs = [.ref a] ∧ H a = some (.ins C dx fs) ∧ sp [.ref a] H (fun v H' => ∃ y : Str, v = .str y ∧ Q v H') E
theorem call_strO (F : FnOk X.prog X.w X.K X.mg X.base CX n f fd ps sp) (hs : PySem.W.findIn X.K (.ref C) "__str__" = some (some (.ref f))) (hf : PySem.W.isFn X.K (.ref f) = true) (hb : Binds X.K fd ps []) (hr : Room (n + 2) X.A) (hx : Passes CX X E) :
    CallR X (.type "str") (rShowO C sp E) := by
  intro pins s σ H xs us Q I r h
  obtain ⟨a, dx, fs, rfl, ha, hsp⟩ := h
  rw [Vals.ref1 r]
  obtain ⟨mA, J, _⟩ := ins_get I.hok ha
  obtain ⟨od, J, _⟩ := J.look
  obtain ⟨m, hF⟩ := I.fr
  refine PySem.W.kso_call (by have := hr.units; show X.A.units + 1 + 1 < cLine; omega) I.kIn J hs hf ?_
  have hl := F.len _ _ _ _ hsp
  refine wpAny_call (codeAny_mono (F.run X.A.in1.in1 X.stack s H ⟨[.ref a], []⟩ [.ref a] [.ref a] _ E hr.in1.in1 (env_in2 I) (by
    have := hb s [.ref a] I.kIn (by simpa using hl)
    simpa using this) (.cons rfl .nil) hsp) fun r s' hq => ?_)
  match r, hq with
  | .error e, hq => exact hx pins σ H s e s' I hq
  | .ok .next, hq => exact hq.elim
  | .ok .brk, hq => exact hq.elim
  | .ok .cont, hq => exact hq.elim
  | .ok (.ret u), hq =>
    obtain ⟨z, H', I', rz, y, rfl, q⟩ := I.after hq
    obtain ⟨t, rfl⟩ := rz
    exact ⟨.str y, H', I', ⟨_, rfl⟩, q⟩
theorem call_reprO (F : FnOk X.prog X.w X.K X.mg X.base CX n f fd ps sp) (hs : PySem.W.findIn X.K (.ref C) "__repr__" = some (some (.ref f))) (hf : PySem.W.isFn X.K (.ref f) = true) (hb : Binds X.K fd ps []) (hr : Room (n + 1) X.A) (hx : Passes CX X E) :
    CallR X (.builtin "repr") (rShowO C sp E) := by
  intro pins s σ H xs us Q I r h
  obtain ⟨a, dx, fs, rfl, ha, hsp⟩ := h
  rw [Vals.ref1 r]
  obtain ⟨mA, J, _⟩ := ins_get I.hok ha
  obtain ⟨od, J, _⟩ := J.look
  obtain ⟨m, hF⟩ := I.fr
  refine PySem.W.repr_K (by have := hr.units; show X.A.units + 1 < cLine; omega) hF I.ok.mod.kin J hs hf ?_
  have hl := F.len _ _ _ _ hsp
  refine wpAny_call (codeAny_mono (F.run X.A.in1 X.stack s H ⟨[.ref a], []⟩ [.ref a] [.ref a] _ E hr.in1 (env_in1 I) (by
    have := hb s [.ref a] I.kIn (by simpa using hl)
    simpa using this) (.cons rfl .nil) hsp) fun r s' hq => ?_)
  match r, hq with
  | .error e, hq => exact hx pins σ H s e s' I hq
  | .ok .next, hq => exact hq.elim
  | .ok .brk, hq => exact hq.elim
  | .ok .cont, hq => exact hq.elim
  | .ok (.ret u), hq =>
    obtain ⟨z, H', I', rz, y, rfl, q⟩ := I.after hq
    obtain ⟨t, rfl⟩ := rz
    exact ⟨.str y, H', I', ⟨_, rfl⟩, q⟩
/-- o[i], what is raised wished for at the slots -/
def tGetO (C : Addr) (sp : Sp) (E : St → XK) (ta tb : TE) : TE := fun σ H Q => ta σ H fun x H1 => tb σ H1 fun y H2 => ∃ p dx fs, x = .ref p ∧ H2 p = some (.ins C dx fs) ∧ sp [x, y] H2 Q (E σ)
theorem pe_getO {E : St → XK} {a b : Expr} {pos : Pos} {ta tb : TE} (F : FnOk X.prog X.w X.K X.mg X.base CX n f fd ps sp) (hs : PySem.W.findIn X.K (.ref C) "__getitem__" = some (some (.ref f))) (hf : PySem.W.isFn X.K (.ref f) = true) (hn : PySem.W.fnIn X.K f = true) (hb : Binds X.K fd ps []) (hr : Room (n + 1) X.A) (hx : ∀ σ, PassesAt CX X σ (E σ))
    (ha : PE X a ta) (hi : PE X b tb) (hsl : ∀ o i, subscripted b true o i = runValue (.builtin "lifetime.subscript" ⟨[o, i], []⟩) := by intro _ _; rfl) : PE X (.Subscript a b pos) (tGetO C sp E ta tb) := by
  refine ⟨fun pins s σ H Q I h => ?_⟩
  refine Subscript_ (binT ha hi I h fun v u s2 x y H2 I2 rx ry q => ?_)
  obtain ⟨p, dx, fs, rfl, hp, hsp⟩ := q
  cases rx
  obtain ⟨mA, J, _⟩ := ins_get I2.hok hp
  obtain ⟨od, J, _⟩ := J.look
  obtain ⟨m, hF⟩ := I2.fr
  refine PySem.W.sub_K hF I2.ok.mod.kin J hs hn hf ?_ (hsl _ _)
  have hl := F.len _ _ _ _ hsp
  refine wpAny_call (codeAny_mono (F.run X.A.in1 X.stack s2 H2 ⟨[.ref p, u], []⟩ [.ref p, u] [.ref p, y] _ (E σ) hr.in1 (env_in1 I2) (by
    have := hb s2 [.ref p, u] I2.kIn (by simpa using hl)
    simpa using this) (.cons rfl (.cons ry .nil)) hsp) fun r s' hq => ?_)
  match r, hq with
  | .error e, hq => exact hx σ pins H2 s2 e s' I2 hq
  | .ok .next, hq => exact hq.elim
  | .ok .brk, hq => exact hq.elim
  | .ok .cont, hq => exact hq.elim
  | .ok (.ret u), hq => exact I2.after hq
end
end L2.G42

set_option Elab.async false
set_option linter.all false
set_option maxRecDepth 100000
set_option maxHeartbeats 4000000
namespace L2.G42
open PySem PySem.Spec
/-! texts of tokens with spaces between -/
/-- a token: a word of letters, or one sign -/
def Word (t : List Nat) : Prop := t ≠ [] ∧ ∀ c ∈ t, letter c = true
def Sign (t : List Nat) : Prop := ∃ c, t = [c] ∧ letter c = false ∧ c ≠ 32
def Tk (t : List Nat) : Prop := Word t ∨ Sign t
/-- tokens, each with the spaces ahead of it; e spaces at the end -/
def loose : List (Nat × List Nat) → Nat → List Nat
  | [], e => List.replicate e 32
  | (s, t) :: r, e => List.replicate s 32 ++ (t ++ loose r e)
def placed : Nat → List (Nat × List Nat) → List (Nat × List Nat)
  | _, [] => []
  | n, (s, t) :: r => (n + s, t) :: placed (n + s + t.length) r
/-- no word straight behind a word -/
def Apart2 : List (Nat × List Nat) → Prop
  | [] => True
  | [(_, t)] => Tk t
  | (_, t) :: (s, u) :: r => Tk t ∧ (Word t → s ≠ 0 ∨ Sign u) ∧ Apart2 ((s, u) :: r)
theorem toks_sp : ∀ (k n : Nat) (l : List Nat), toks n (List.replicate k 32 ++ l) = toks (n + k) l
  | 0, _, _ => rfl
  | k + 1, n, l => by
    rw [List.replicate_succ, List.cons_append, toks]
    have h : ¬ letter 32 = true := by decide
    rw [if_neg h, if_pos rfl, toks_sp k (n + 1) l]
    congr 1
    omega
theorem toks_sign {c n : Nat} {l : List Nat} (h : letter c = false) (h2 : c ≠ 32) : toks n (c :: l) = (n, [c]) :: toks (n + 1) l := by
  rw [toks, if_neg (by rw [h]; decide), if_neg h2]
theorem tw_word : ∀ {t l : List Nat}, (∀ c ∈ t, letter c = true) → (∀ c r, l = c :: r → letter c = false) → (t ++ l).takeWhile letter = t ∧ (t ++ l).dropWhile letter = l
  | [], [], _, _ => ⟨rfl, rfl⟩
  | [], c :: l, _, h => by
    have := h c l rfl
    rw [List.nil_append, List.takeWhile_cons, List.dropWhile_cons, this]
    exact ⟨rfl, rfl⟩
  | c :: t, l, h, h2 => by
    obtain ⟨a, b⟩ := tw_word (t := t) (l := l) (fun x hx => h x (List.mem_cons_of_mem _ hx)) h2
    have := h c List.mem_cons_self
    rw [List.cons_append, List.takeWhile_cons, List.dropWhile_cons, this]
    simp only [if_true]
    rw [a, b]
    exact ⟨rfl, rfl⟩
theorem toks_word {t : List Nat} {n : Nat} {l : List Nat} (h : Word t) (h2 : ∀ c r, l = c :: r → letter c = false) : toks n (t ++ l) = (n, t) :: toks (n + t.length) l := by
  obtain ⟨ne, hl⟩ := h
  cases t with
  | nil => exact absurd rfl ne
  | cons c t =>
    obtain ⟨a, b⟩ := tw_word (t := t) (l := l) (fun x hx => hl x (List.mem_cons_of_mem _ hx)) h2
    rw [List.cons_append, toks, if_pos (hl c List.mem_cons_self), a, b]
    congr 2
    rw [List.length_cons]
    omega
theorem rep_head {k c : Nat} {l r : List Nat} (h : List.replicate k 32 ++ l = c :: r) (hk : k ≠ 0) : c = 32 := by
  cases k with
  | zero => exact absurd rfl hk
  | succ k =>
    rw [List.replicate_succ] at h
    injection h with h
    exact h.symm
theorem toks_loose : ∀ (ps : List (Nat × List Nat)) (e n : Nat), Apart2 ps → toks n (loose ps e) = placed n ps
  | [], e, n, _ => by
    have := toks_sp e n []
    rw [List.append_nil] at this
    show toks n (List.replicate e 32) = []
    rw [this, toks]
  | [(s, t)], e, n, h => by
    show toks n (List.replicate s 32 ++ (t ++ loose [] e)) = _
    rw [toks_sp]
    have ih : toks (n + s + t.length) (loose [] e) = [] := toks_loose [] e _ trivial
    rcases h with h | ⟨c, rfl, h1, h2⟩
    · rw [toks_word h (fun c r q => ?_), ih]
      · rfl
      · have : c = 32 := by
          cases e with
          | zero => cases q
          | succ e =>
            have q' : List.replicate (e + 1) 32 = c :: r := q
            rw [List.replicate_succ] at q'
            injection q' with q'
            exact q'.symm
        subst this
        decide
    · rw [List.singleton_append, toks_sign h1 h2]
      exact congrArg _ ih
  | (s, t) :: (s2, u) :: r, e, n, h => by
    obtain ⟨ht, hs, hr⟩ := h
    show toks n (List.replicate s 32 ++ (t ++ loose ((s2, u) :: r) e)) = _
    rw [toks_sp]
    have ih := toks_loose ((s2, u) :: r) e (n + s + t.length) hr
    rcases ht with h | ⟨c, rfl, h1, h2⟩
    · rw [toks_word h (fun c r' q => ?_), ih]
      · rfl
      · have q' : List.replicate s2 32 ++ (u ++ loose r e) = c :: r' := q
        by_cases h0 : s2 = 0
        · subst h0
          rcases hs h with h3 | ⟨c', rfl, h4, h5⟩
          · exact absurd rfl h3
          · have q2 : [c'] ++ loose r e = c :: r' := q'
            injection q2 with q2
            rw [← q2]
            exact h4
        · rw [rep_head q' h0]
          decide
    · rw [List.singleton_append, toks_sign h1 h2]
      exact congrArg _ ih
/-! items of books: n levels of tables at most -/
def Tab : Nat → Type
  | 0 => Empty
  | n + 1 => Str × List (Str × (Str ⊕ Tab n))
abbrev Tr (n : Nat) : Type := Str ⊕ Tab n
namespace Tr
abbrev bag {n : Nat} (k : Str) : Tr n := Sum.inl k
abbrev tab {n : Nat} (m : Str) (es : List (Str × Tr n)) : Tr (n + 1) := Sum.inr (m, es)
/-- a tree is a bag, or a table with one level less -/
theorem ind {motive : (n : Nat) → Tr n → Prop} (hb : ∀ n k, motive n (bag k)) (ht : ∀ n m es, (∀ e ∈ es, motive n e.2) → motive (n + 1) (tab m es)) : ∀ n t, motive n t
  | n, .inl k => hb n k
  | 0, .inr x => nomatch x
  | n + 1, .inr (m, es) => ht n m es fun e _ => ind hb ht n e.2
def dat : (n : Nat) → Tr n → PyData
  | _, .inl k => .str k
  | 0, .inr x => nomatch x
  | n + 1, .inr (m, es) => .list [.str m, .list (es.map fun e => .list [.str e.1, dat n e.2])]
def commas : List (List Str) → List Str
  | [] => []
  | x :: r => x ++ (r.map fun y => Str.ofString "," :: y).flatten
def toks : (n : Nat) → Tr n → List Str
  | _, .inl k => [k]
  | 0, .inr x => nomatch x
  | n + 1, .inr (m, es) => m :: "{" :: (commas (es.map fun e => e.1 :: ":" :: toks n e.2) ++ [Str.ofString "}"])
def Ok : (n : Nat) → Tr n → Prop
  | _, .inl k => k ∈ kinds
  | 0, .inr x => nomatch x
  | n + 1, .inr (m, es) => m ∈ modes ∧ es ≠ [] ∧ DiffBy (·.1) es ∧ ∀ e ∈ es, isKey e.1 = true ∧ Ok n e.2
/-- at most three keys each -/
def Few : (n : Nat) → Tr n → Prop
  | _, .inl _ => True
  | 0, .inr x => nomatch x
  | n + 1, .inr (_, es) => es.length ≤ 3 ∧ ∀ e ∈ es, Few n e.2
def nt : (n : Nat) → Tr n → Nat
  | _, .inl _ => 0
  | 0, .inr x => nomatch x
  | n + 1, .inr (_, es) => 1 + (es.map fun e => nt n e.2).sum
def nb : (n : Nat) → Tr n → Nat
  | _, .inl _ => 1
  | 0, .inr x => nomatch x
  | n + 1, .inr (_, es) => (es.map fun e => nb n e.2).sum
def marks : (n : Nat) → List Str → Tr n → List (List Str × Str)
  | _, p, .inl k => [(p, k)]
  | 0, _, .inr x => nomatch x
  | n + 1, p, .inr (m, es) => (p, m) :: es.flatMap fun e => marks n (p ++ [e.1]) e.2
/-- its entries ascending, and theirs -/
def srt : (n : Nat) → Tr n → Tr n
  | _, .inl k => .inl k
  | 0, .inr x => nomatch x
  | n + 1, .inr (m, es) => tab m (srtBy ltS (·.1) (es.map fun e => (e.1, srt n e.2)))
def text : (n : Nat) → Tr n → Str
  | _, .inl k => k
  | 0, .inr x => nomatch x
  | n + 1, .inr (m, es) => m ++ "{" ++ Txt.join "," (es.map fun e => e.1 ++ ":" ++ text n e.2) ++ "}"
def form : (n : Nat) → Tr n → Str
  | _, .inl _ => "*"
  | 0, .inr x => nomatch x
  | n + 1, .inr (_, es) => "{" ++ Txt.join "," (es.map fun e => e.1 ++ ":" ++ form n e.2) ++ "}"
def keys : (n : Nat) → Tr n → List Str
  | _, .inl _ => []
  | 0, .inr x => nomatch x
  | n + 1, .inr (_, es) => es.map (·.1)
def mark : (n : Nat) → Tr n → Str
  | _, .inl k => k
  | 0, .inr x => nomatch x
  | n + 1, .inr (m, _) => m
section
variable {n : Nat} {m k : Str} {es : List (Str × Tr n)} {p : List Str}
theorem dat_bag : dat n (bag k) = .str k := by cases n <;> rfl
theorem dat_tab : dat (n + 1) (tab m es) = .list [.str m, .list (es.map fun e => .list [.str e.1, dat n e.2])] := rfl
theorem toks_bag : toks n (bag k) = [k] := by cases n <;> rfl
theorem toks_tab : toks (n + 1) (tab m es) = m :: "{" :: (commas (es.map fun e => e.1 :: ":" :: toks n e.2) ++ [Str.ofString "}"]) := rfl
theorem ok_bag : Ok n (bag k) = (k ∈ kinds) := by cases n <;> rfl
theorem ok_tab : Ok (n + 1) (tab m es) = (m ∈ modes ∧ es ≠ [] ∧ DiffBy (·.1) es ∧ ∀ e ∈ es, isKey e.1 = true ∧ Ok n e.2) := rfl
theorem few_bag : Few n (bag k) = True := by cases n <;> rfl
theorem few_tab : Few (n + 1) (tab m es) = (es.length ≤ 3 ∧ ∀ e ∈ es, Few n e.2) := rfl
theorem nt_bag : nt n (bag k) = 0 := by cases n <;> rfl
theorem nt_tab : nt (n + 1) (tab m es) = 1 + (es.map fun e => nt n e.2).sum := rfl
theorem nb_bag : nb n (bag k) = 1 := by cases n <;> rfl
theorem nb_tab : nb (n + 1) (tab m es) = (es.map fun e => nb n e.2).sum := rfl
theorem marks_bag : marks n p (bag k) = [(p, k)] := by cases n <;> rfl
theorem marks_tab : marks (n + 1) p (tab m es) = (p, m) :: es.flatMap fun e => marks n (p ++ [e.1]) e.2 := rfl
theorem srt_bag : srt n (bag k) = bag k := by cases n <;> rfl
theorem srt_tab : srt (n + 1) (tab m es) = tab m (srtBy ltS (·.1) (es.map fun e => (e.1, srt n e.2))) := rfl
theorem text_bag : text n (bag k) = k := by cases n <;> rfl
theorem text_tab : text (n + 1) (tab m es) = m ++ "{" ++ Txt.join "," (es.map fun e => e.1 ++ ":" ++ text n e.2) ++ "}" := rfl
theorem form_bag : form n (bag k) = "*" := by cases n <;> rfl
theorem form_tab : form (n + 1) (tab m es) = "{" ++ Txt.join "," (es.map fun e => e.1 ++ ":" ++ form n e.2) ++ "}" := rfl
theorem keys_bag : keys n (bag k) = [] := by cases n <;> rfl
theorem keys_tab : keys (n + 1) (tab m es) = es.map (·.1) := rfl
theorem mark_bag : mark n (bag k) = k := by cases n <;> rfl
theorem mark_tab : mark (n + 1) (tab m es) = m := rfl
end
end Tr
end L2.G42

set_option Elab.async false
set_option linter.all false
set_option maxRecDepth 100000
set_option maxHeartbeats 4000000
namespace L2.G42
open PySem PySem.Spec
def kp (p : List Str) : List Key := p.map Sum.inr
def kmk (ms : List (List Str × Str)) : List (List Key × V) := ms.map fun q => (kp q.1, V.str q.2)
theorem kp_inj {p q : List Str} (h : kp p = kp q) : p = q := by
  have : ∀ {p q : List Str}, p.map (Sum.inr : Str → Key) = q.map Sum.inr → p = q := by
    intro p
    induction p with
    | nil => intro q h; cases q with
      | nil => rfl
      | cons a b => cases h
    | cons a p ih => intro q h; cases q with
      | nil => cases h
      | cons b q =>
        injection h with h1 h2
        injection h1 with h1
        rw [h1, ih h2]
  exact this h
theorem kp_app (p q : List Str) : kp (p ++ q) = kp p ++ kp q := List.map_append
theorem kmk_app (a b : List (List Str × Str)) : kmk (a ++ b) = kmk a ++ kmk b := List.map_append
def tw (t : Nat × List Nat) : Str := tx t.2
/-- what is ahead -/
def Rd.ah (s : Rd) : List (Nat × List Nat) := s.toks.drop s.at_
theorem word_of {s : Rd} {t : Nat × List Nat} {r : List (Nat × List Nat)} (h : s.ah = t :: r) : s.word = tw t ∧ s.step.ah = r ∧ s.at_ < s.toks.length := by
  have hl : s.at_ < s.toks.length := by
    rcases Nat.lt_or_ge s.at_ s.toks.length with q | q
    · exact q
    · unfold Rd.ah at h
      rw [List.drop_eq_nil_of_le q] at h
      cases h
  have hd : s.toks.drop s.at_ = s.toks[s.at_] :: s.toks.drop (s.at_ + 1) := List.drop_eq_getElem_cons hl
  unfold Rd.ah at h
  rw [hd] at h
  injection h with h1 h2
  refine ⟨?_, h2, hl⟩
  unfold Rd.word
  rw [List.getElem?_eq_getElem hl, h1]
  rfl
theorem word_nil {s : Rd} (h : s.ah = []) : s.word = "" := by
  unfold Rd.word
  rw [List.getElem?_eq_none (List.drop_eq_nil_iff.mp h)]
/-- read on -/
def Rd.adv (s : Rd) (k : Nat) (ms : List (List Str × Str)) (a b : Nat) : Rd := { s with at_ := s.at_ + k, marks := s.marks ++ kmk ms, nt := s.nt + a, nb := s.nb + b }
theorem adv_ah {s : Rd} {ts rest : List (Nat × List Nat)} (h : s.ah = ts ++ rest) {k : Nat} (hk : k = ts.length) (ms : List (List Str × Str)) (a b : Nat) : (s.adv k ms a b).ah = rest := by
  subst hk
  show s.toks.drop (s.at_ + ts.length) = rest
  rw [← List.drop_drop]
  show (s.ah).drop ts.length = rest
  rw [h, List.drop_left]
theorem adv_adv (s : Rd) (k k' : Nat) (ms ms' : List (List Str × Str)) (a a' b b' : Nat) : (s.adv k ms a b).adv k' ms' a' b' = s.adv (k + k') (ms ++ ms') (a + a') (b + b') := by
  unfold Rd.adv
  simp only [Nat.add_assoc, List.append_assoc, kmk_app]
theorem take_of {s : Rd} {x : Str} {t : Nat × List Nat} {r : List (Nat × List Nat)} (h : s.ah = t :: r) (hx : tw t = x) : rdTake x s = .ok (s.adv 1 [] 0 0) := by
  unfold rdTake
  rw [(word_of h).1, if_pos hx]
  unfold Rd.adv Rd.step kmk
  simp
/-- no mark at or behind p -/
def Free (s : Rd) (p : List Str) : Prop := ∀ q ∈ s.marks, ∀ r : List Key, q.1 ≠ kp p ++ r
theorem val_none {s : Rd} {p : List Str} (h : Free s p) : valV s.marks (kp p) = none := by
  unfold valV
  rw [Option.map_eq_none_iff, List.find?_eq_none]
  intro q hq e
  have := of_decide_eq_true e
  exact h q hq [] (by rw [List.append_nil]; exact this)
theorem put_new {s : Rd} {p : List Str} (h : Free s p) (v : V) : putK s.marks (kp p) v = s.marks ++ [(kp p, v)] := by
  unfold putK
  rw [if_neg]
  intro e
  obtain ⟨q, hq, e⟩ := List.any_eq_true.mp e
  have := of_decide_eq_true e
  exact h q hq [] (by rw [List.append_nil]; exact this)
namespace Tr
theorem marks_pre : ∀ (n : Nat) (t : Tr n) (p : List Str), ∀ q ∈ marks n p t, ∃ r, q.1 = p ++ r := by
  refine ind (fun n k p q hq => ?_) (fun n m es ih p q hq => ?_)
  · rw [marks_bag] at hq
    rw [List.mem_singleton.mp hq]
    exact ⟨[], (List.append_nil _).symm⟩
  · rw [marks_tab] at hq
    rcases List.mem_cons.mp hq with e | hq
    · rw [e]; exact ⟨[], (List.append_nil _).symm⟩
    · obtain ⟨e, he, hq⟩ := List.mem_flatMap.mp hq
      obtain ⟨r, hr⟩ := ih e he (p ++ [e.1]) q hq
      exact ⟨[e.1] ++ r, by rw [hr, List.append_assoc]⟩
end Tr
theorem Free.adv {s : Rd} {p p' : List Str} (h : Free s p) {k a b : Nat} {ms : List (List Str × Str)} (hm : ∀ q ∈ ms, ∃ r, q.1 = p' ++ r) (hne : ∀ r r', p' ++ r ≠ p ++ r') : Free (s.adv k ms a b) p := by
  intro q hq r e
  rcases List.mem_append.mp (show q ∈ s.marks ++ kmk ms from hq) with hq | hq
  · exact h q hq r e
  · obtain ⟨x, hx, rfl⟩ := List.mem_map.mp hq
    obtain ⟨r', hr'⟩ := hm x hx
    have e' : kp x.1 = kp p ++ r := e
    rw [hr', kp_app] at e'
    -- the tail is of texts too
    have len : (kp p).length ≤ (kp (p' ++ r')).length := by
      rw [kp_app, e', List.length_append]
      omega
    have e2 : p = (p' ++ r').take p.length := by
      apply kp_inj
      have h1 : kp ((p' ++ r').take p.length) = (kp (p' ++ r')).take p.length := List.map_take
      rw [h1, kp_app, e']
      have : (kp p).length = p.length := List.length_map _
      rw [← this, List.take_left]
    exact hne r' ((p' ++ r').drop p.length) (by
      have := List.take_append_drop p.length (p' ++ r')
      rw [← e2] at this
      exact this.symm)
theorem ne_keys {p : List Str} {a b : Str} (h : a ≠ b) : ∀ r r', (p ++ [a]) ++ r ≠ (p ++ [b]) ++ r' := fun r r' e => by
  rw [List.append_assoc, List.append_assoc] at e
  have := List.append_cancel_left e
  injection this with h1 _
  exact h h1
theorem Free.under {s : Rd} {p : List Str} (h : Free s p) (a : Str) : Free s (p ++ [a]) := fun q hq r e => h q hq (kp [a] ++ r) (by rw [e, kp_app, List.append_assoc])
end L2.G42

set_option Elab.async false
set_option linter.all false
set_option maxRecDepth 100000
set_option maxHeartbeats 4000000
namespace L2.G42
open PySem PySem.Spec
namespace Tr
/-- a reader that reads x under p -/
def Reads1 (ent : Rd → Except Nat Rd) (p : List Str) (n : Nat) (e : Str × Tr n) : Prop := ∀ (s : Rd) (ts rest : List (Nat × List Nat)), s.ah = ts ++ rest → ts.map tw = e.1 :: ":" :: toks n e.2 → Free s (p ++ [e.1]) → s.nt + nt n e.2 ≤ 6 → s.nb + nb n e.2 ≤ 6 →
  ent s = .ok (s.adv ts.length (marks n (p ++ [e.1]) e.2) (nt n e.2) (nb n e.2))
theorem map_cons_inv {α β : Type} {f : α → β} {l : List α} {b : β} {m : List β} (h : l.map f = b :: m) : ∃ a r, l = a :: r ∧ f a = b ∧ r.map f = m := by
  cases l with
  | nil => cases h
  | cons a r => injection h with h1 h2; exact ⟨a, r, rfl, h1, h2⟩
theorem map_app_inv {α β : Type} {f : α → β} : ∀ {m k : List β} {l : List α}, l.map f = m ++ k → ∃ a r, l = a ++ r ∧ a.map f = m ∧ r.map f = k
  | [], k, l, h => ⟨[], l, rfl, rfl, h⟩
  | b :: m, k, l, h => by
    obtain ⟨a, r, rfl, h1, h2⟩ := map_cons_inv (show l.map f = b :: (m ++ k) from h)
    obtain ⟨x, y, rfl, h3, h4⟩ := map_app_inv h2
    exact ⟨a :: x, y, rfl, by rw [List.map_cons, h1, h3], h4⟩
theorem more_of {ent : Rd → Except Nat Rd} {p : List Str} {n : Nat} : ∀ (es : List (Str × Tr n)) (k : Nat) (s : Rd) (ts rest : List (Nat × List Nat)), (∀ e ∈ es, Reads1 ent p n e) → es.length ≤ k → s.ah = ts ++ rest → ts.map tw = (es.map fun e => Str.ofString "," :: e.1 :: ":" :: toks n e.2).flatten →
    (∀ t r, rest = t :: r → tw t ≠ ",") → DiffBy (·.1) es → (∀ e ∈ es, Free s (p ++ [e.1])) → s.nt + (es.map fun e => nt n e.2).sum ≤ 6 → s.nb + (es.map fun e => nb n e.2).sum ≤ 6 →
    rdMore ent k s = .ok (s.adv ts.length (es.flatMap fun e => marks n (p ++ [e.1]) e.2) (es.map fun e => nt n e.2).sum (es.map fun e => nb n e.2).sum)
  | [], k, s, ts, rest, _, _, ha, ht, hr, _, _, _, _ => by
    have e : ts = [] := List.map_eq_nil_iff.mp ht
    subst e
    have hw : s.word ≠ "," := by
      cases rest with
      | nil => rw [word_nil ha]; decide
      | cons t r => rw [(word_of ha).1]; exact hr t r rfl
    have e2 : s.adv ([] : List (Nat × List Nat)).length (([] : List (Str × Tr n)).flatMap fun e => marks n (p ++ [e.1]) e.2) 0 0 = s := by
      unfold Rd.adv kmk
      simp
    cases k with
    | zero => rw [rdMore, if_neg hw]; exact congrArg Except.ok e2.symm
    | succ k => rw [rdMore, if_neg hw]; exact congrArg Except.ok e2.symm
  | e :: es, 0, s, ts, rest, _, hl, _, _, _, _, _, _, _ => by cases hl
  | e :: es, k + 1, s, ts, rest, he, hl, ha, ht, hr, hd, hf, h1, h2 => by
    rw [List.map_cons, List.flatten_cons] at ht
    obtain ⟨ta, tb, rfl, m1, m2⟩ := map_app_inv ht
    obtain ⟨tc, ta, rfl, m3, m4⟩ := map_cons_inv m1
    rw [List.map_cons, List.sum_cons] at h1 h2
    have ha' : s.ah = tc :: (ta ++ (tb ++ rest)) := by rw [ha]; simp
    have w := word_of ha'
    rw [rdMore, if_pos (w.1.trans m3)]
    have hs : s.step = s.adv 1 [] 0 0 := by
      unfold Rd.adv Rd.step kmk
      simp
    have f1 : Free s.step (p ++ [e.1]) := hf e List.mem_cons_self
    rw [he e List.mem_cons_self s.step ta (tb ++ rest) w.2.1 m4 f1 (by show s.nt + _ ≤ 6; omega) (by show s.nb + _ ≤ 6; omega)]
    show rdMore ent k _ = _
    have hd' := List.pairwise_cons.mp hd
    have g1 : ∀ x ∈ es, Free (s.step.adv ta.length (marks n (p ++ [e.1]) e.2) (nt n e.2) (nb n e.2)) (p ++ [x.1]) := fun x hx => Free.adv (s := s.step) (hf x (List.mem_cons_of_mem _ hx)) (marks_pre n e.2 (p ++ [e.1])) (ne_keys (hd'.1 x hx))
    have g2 : s.nt + nt n e.2 + (es.map fun e => nt n e.2).sum ≤ 6 := by omega
    have g3 : s.nb + nb n e.2 + (es.map fun e => nb n e.2).sum ≤ 6 := by omega
    rw [more_of es k _ tb rest (fun x hx => he x (List.mem_cons_of_mem _ hx)) (by simpa using hl) (adv_ah w.2.1 rfl _ _ _) m2 hr hd'.2 g1 g2 g3, hs, adv_adv, adv_adv]
    simp only [List.nil_append, Nat.zero_add, List.flatMap_cons, List.map_cons, List.sum_cons, List.length_cons, List.length_append]
    congr 2
    omega
theorem kinds_not {m : Str} (h : m ∈ modes) : kinds.contains m = false := by
  have : ∀ m ∈ modes, kinds.contains m = false := by decide +kernel
  exact this m h
theorem modes_in {m : Str} (h : m ∈ modes) : modes.contains m = true := List.contains_iff_mem.mpr h
/-- a table under p that is read -/
def ReadsT (n : Nat) (t : Tr n) (p : List Str) : Prop := ∀ (s : Rd) (ts rest : List (Nat × List Nat)), s.ah = ts ++ rest → ts.map tw = toks n t → Free s p → s.nt + nt n t ≤ 6 → s.nb + nb n t ≤ 6 → rdTable n (kp p) s = .ok (s.adv ts.length (marks n p t) (nt n t) (nb n t))
theorem head_tab : ∀ (n : Nat) (t : Tr n), t.isRight = true → Ok n t → ∃ m r, toks n t = m :: r ∧ m ∈ modes := by
  refine ind (fun n k h => by cases h) (fun n m es _ _ ho => ⟨m, _, rfl, ho.1⟩)
theorem read_ent {n : Nat} {p : List Str} {e : Str × Tr n} (hk : isKey e.1 = true) (ho : Ok n e.2) (hT : e.2.isRight = true → ReadsT n e.2 (p ++ [e.1])) : Reads1 (rdEntry (rdTable n) (kp p)) p n e := by
  intro s ts rest ha ht hf h1 h2
  obtain ⟨t0, ts, rfl, m0, ht⟩ := map_cons_inv ht
  obtain ⟨t1, ts, rfl, m1, ht⟩ := map_cons_inv ht
  have w := word_of ha
  have kk : kp p ++ [Sum.inr s.word] = kp (p ++ [e.1]) := by
    rw [kp_app, w.1, m0]
    rfl
  unfold rdEntry
  rw [if_neg (by rw [kk, val_none hf, w.1, m0, hk]; simp), take_of (s := s.step) w.2.1 m1]
  have hs : s.step.adv 1 [] 0 0 = s.adv 2 [] 0 0 := by
    unfold Rd.adv Rd.step kmk
    simp
  rw [hs]
  have ha2 : (s.adv 2 [] 0 0).ah = ts ++ rest := adv_ah (s := s) (ts := [t0, t1]) (rest := ts ++ rest) ha (k := 2) rfl [] 0 0
  have f2 : Free (s.adv 2 [] 0 0) (p ++ [e.1]) := fun q hq r => hf q (by simpa [Rd.adv, kmk] using hq) r
  rw [kk]
  show (if kinds.contains (s.adv 2 [] 0 0).word = false then rdTable n (kp (p ++ [e.1])) (s.adv 2 [] 0 0) else if (s.adv 2 [] 0 0).nb = 6 then _ else _) = _
  obtain ⟨key, t⟩ := e
  cases hR : t.isRight with
  | false =>
    obtain ⟨k, rfl⟩ : ∃ k, t = .inl k := by
      cases t with
      | inl k => exact ⟨k, rfl⟩
      | inr x => cases hR
    have ho : k ∈ kinds := by rw [← ok_bag (n := n)]; exact ho
    have ht : ts.map tw = [k] := by rw [← toks_bag (n := n)]; exact ht
    obtain ⟨t2, ts, rfl, m2, ht⟩ := map_cons_inv ht
    have e : ts = [] := List.map_eq_nil_iff.mp ht
    subst e
    have w2 := word_of ha2
    have hkc : kinds.contains (s.adv 2 [] 0 0).word = true := by
      rw [w2.1, m2]
      exact List.contains_iff_mem.mpr ho
    have h2 : s.nb + 1 ≤ 6 := by
      have : nb n (.inl k : Tr n) = 1 := nb_bag
      rw [← this]
      exact h2
    have n6 : ¬ (s.adv 2 [] 0 0).nb = 6 := by
      show ¬ s.nb + 0 = 6
      omega
    rw [if_neg (by rw [hkc]; decide), if_neg n6, put_new f2, w2.1, m2]
    show _ = Except.ok (s.adv 3 (marks n (p ++ [key]) (.inl k)) (nt n (.inl k)) (nb n (.inl k)))
    have e1 : marks n (p ++ [key]) (.inl k : Tr n) = [(p ++ [key], k)] := marks_bag
    have e2 : nt n (.inl k : Tr n) = 0 := nt_bag
    have e3 : nb n (.inl k : Tr n) = 1 := nb_bag
    rw [e1, e2, e3]
    unfold Rd.adv Rd.step kmk
    simp
  | true =>
    obtain ⟨m, r, e1, hm⟩ := head_tab n t hR ho
    have ht' := ht
    rw [e1] at ht'
    obtain ⟨t2, ts2, rfl, m2, _⟩ := map_cons_inv ht'
    have w2 := word_of ha2
    rw [if_pos (by rw [w2.1, m2]; exact kinds_not hm), hT hR (s.adv 2 [] 0 0) (t2 :: ts2) rest ha2 ht f2 h1 h2, adv_adv]
    simp only [List.nil_append, Nat.zero_add, List.length_cons]
    congr 2
    omega
theorem read_tab : ∀ (n : Nat) (t : Tr n), ∀ p, Ok n t → Few n t → t.isRight = true → ReadsT n t p := by
  refine ind (fun n k p _ _ h => by cases h) (fun n m es ih p ho hw _ s ts rest ha ht hf h1 h2 => ?_)
  rw [ok_tab] at ho
  rw [few_tab] at hw
  rw [toks_tab] at ht
  rw [nt_tab] at h1
  rw [nb_tab] at h2
  obtain ⟨hm, ne, hd, hes⟩ := ho
  have hent : ∀ e ∈ es, Reads1 (rdEntry (rdTable n) (kp p)) p n e := fun e he => read_ent (hes e he).1 (hes e he).2 fun hR => ih e he (p ++ [e.1]) (hes e he).2 (hw.2 e he) hR
  obtain ⟨t0, ts, rfl, m0, ht⟩ := map_cons_inv ht
  obtain ⟨t1, ts, rfl, m1, ht⟩ := map_cons_inv ht
  obtain ⟨te, tz, rfl, m2, m3⟩ := map_app_inv ht
  obtain ⟨tc, tz, rfl, m4, m5⟩ := map_cons_inv m3
  have e0 : tz = [] := List.map_eq_nil_iff.mp m5
  subst e0
  have w := word_of ha
  have n6 : ¬ s.nt = 6 := by omega
  have hmc : modes.contains s.word = true := by
    rw [w.1, m0]
    exact modes_in hm
  unfold rdTable
  rw [if_neg (by rw [hmc]; simp [n6])]
  have e1 : ({ s.step with nt := s.nt + 1, marks := putK s.marks (kp p) (.str s.word) } : Rd) = s.adv 1 [(p, m)] 1 0 := by
    rw [put_new hf, w.1, m0]
    unfold Rd.adv Rd.step kmk
    simp
  rw [e1]
  have ha1 : (s.adv 1 [(p, m)] 1 0).ah = t1 :: (te ++ (tc :: rest)) := adv_ah (s := s) (ts := [t0]) (rest := t1 :: (te ++ (tc :: rest))) (by rw [ha]; simp) (k := 1) rfl [(p, m)] 1 0
  rw [take_of ha1 m1, adv_adv]
  have ha2 : (s.adv (1 + 1) ([(p, m)] ++ []) (1 + 0) (0 + 0)).ah = te ++ (tc :: rest) := adv_ah (s := s) (ts := [t0, t1]) (rest := te ++ (tc :: rest)) (by rw [ha]; simp) (k := 1 + 1) rfl ([(p, m)] ++ []) (1 + 0) (0 + 0)
  generalize hs2 : s.adv (1 + 1) ([(p, m)] ++ []) (1 + 0) (0 + 0) = s2 at ha2
  have nt2 : s2.nt = s.nt + 1 := by rw [← hs2]; rfl
  have nb2 : s2.nb = s.nb := by rw [← hs2]; rfl
  have f2 : ∀ e ∈ es, Free s2 (p ++ [e.1]) := fun e _ => by
    rw [← hs2]
    intro q hq r eq
    rcases List.mem_append.mp (show q ∈ s.marks ++ kmk ([(p, m)] ++ []) from hq) with hq | hq
    · exact hf.under e.1 q hq r eq
    · have : q = (kp p, V.str m) := by simpa [kmk] using hq
      rw [this, kp_app, List.append_assoc] at eq
      have := congrArg List.length eq
      simp [kp] at this
  show Except.bind (rdEntry (rdTable n) (kp p) s2) _ = _
  cases es with
  | nil => exact absurd rfl ne
  | cons e es =>
    rw [List.map_cons, commas] at m2
    obtain ⟨ta, tb, rfl, m6, m7⟩ := map_app_inv m2
    rw [List.map_map] at m7
    rw [List.map_cons, List.sum_cons] at h1 h2
    have hd' := List.pairwise_cons.mp hd
    rw [hent e List.mem_cons_self s2 ta (tb ++ (tc :: rest)) (by rw [ha2]; simp) m6 (f2 e List.mem_cons_self) (by rw [nt2]; omega) (by rw [nb2]; omega)]
    show Except.bind (rdMore (rdEntry (rdTable n) (kp p)) 2 (s2.adv ta.length (marks n (p ++ [e.1]) e.2) (nt n e.2) (nb n e.2))) _ = _
    have ha3 := adv_ah (s := s2) (ts := ta) (rest := tb ++ (tc :: rest)) (by rw [ha2]; simp) rfl (marks n (p ++ [e.1]) e.2) (nt n e.2) (nb n e.2)
    have g0 : ∀ t r, tc :: rest = t :: r → tw t ≠ "," := fun t r q => by
      injection q with q1 q2
      rw [← q1, m4]
      decide
    have g1 : ∀ x ∈ es, Free (s2.adv ta.length (marks n (p ++ [e.1]) e.2) (nt n e.2) (nb n e.2)) (p ++ [x.1]) := fun x hx => (f2 x (List.mem_cons_of_mem _ hx)).adv (marks_pre n e.2 (p ++ [e.1])) (ne_keys (hd'.1 x hx))
    have g2 : s2.nt + nt n e.2 + (es.map fun e => nt n e.2).sum ≤ 6 := by
      rw [nt2]
      omega
    have g3 : s2.nb + nb n e.2 + (es.map fun e => nb n e.2).sum ≤ 6 := by
      rw [nb2]
      omega
    rw [more_of es 2 _ tb (tc :: rest) (fun x hx => hent x (List.mem_cons_of_mem _ hx)) (by have := hw.1; simp at this; omega) ha3 m7 g0 hd'.2 g1 g2 g3, adv_adv]
    show rdTake "}" _ = _
    have ha4 := adv_ah (s := s2) (ts := ta ++ tb) (rest := tc :: rest) (by rw [ha2]) (k := ta.length + tb.length) (by simp) (marks n (p ++ [e.1]) e.2 ++ es.flatMap fun e => marks n (p ++ [e.1]) e.2) (nt n e.2 + (es.map fun e => nt n e.2).sum) (nb n e.2 + (es.map fun e => nb n e.2).sum)
    rw [take_of ha4 m4, adv_adv, ← hs2, adv_adv, marks_tab, nt_tab, nb_tab]
    simp only [List.nil_append, List.append_nil, List.singleton_append, Nat.zero_add, Nat.add_zero, List.flatMap_cons, List.map_cons, List.sum_cons, List.length_cons, List.length_append, List.length_nil, List.cons_append]
    congr 2
    omega
end Tr
end L2.G42

set_option Elab.async false
set_option linter.all false
set_option maxRecDepth 100000
set_option maxHeartbeats 4000000
namespace L2.G42
open PySem PySem.Spec
theorem lexS_pre : ∀ (p a b : List Str), lexS (p ++ a) (p ++ b) = lexS a b
  | [], _, _ => rfl
  | x :: p, a, b => by
    show (if x = x then lexS (p ++ a) (p ++ b) else ltS x x) = _
    rw [if_pos rfl]
    exact lexS_pre p a b
theorem lexS_key {a b : Str} (h : ltS a b = true) (p r r' : List Str) : lexS ((p ++ [a]) ++ r) ((p ++ [b]) ++ r') = true := by
  rw [List.append_assoc, List.append_assoc, lexS_pre]
  show (if a = b then lexS r r' else ltS a b) = true
  rw [if_neg (fun e => by rw [e, ltS_irrefl] at h; cases h)]
  exact h
theorem perm_flatMap {α β : Type} (f : α → List β) : ∀ {l m : List α}, l.Perm m → (l.flatMap f).Perm (m.flatMap f) := fun {l m} h => by
  induction h with
  | nil => exact List.Perm.refl _
  | cons x _ ih => rw [List.flatMap_cons, List.flatMap_cons]; exact ih.append_left _
  | swap x y l =>
    rw [List.flatMap_cons, List.flatMap_cons, List.flatMap_cons, List.flatMap_cons, ← List.append_assoc, ← List.append_assoc]
    exact List.perm_append_comm.append_right _
  | trans _ _ h1 h2 => exact h1.trans h2
theorem perm_flatMap_each {α β : Type} {f g : α → List β} : ∀ {l : List α}, (∀ x ∈ l, (f x).Perm (g x)) → (l.flatMap f).Perm (l.flatMap g)
  | [], _ => List.Perm.refl _
  | x :: l, h => by
    rw [List.flatMap_cons, List.flatMap_cons]
    exact (h x List.mem_cons_self).append (perm_flatMap_each fun y hy => h y (List.mem_cons_of_mem _ hy))
theorem flatMap_same {α β : Type} {f g : α → List β} : ∀ {l : List α}, (∀ x ∈ l, f x = g x) → l.flatMap f = l.flatMap g
  | [], _ => rfl
  | x :: l, h => by
    rw [List.flatMap_cons, List.flatMap_cons, h x List.mem_cons_self, flatMap_same fun y hy => h y (List.mem_cons_of_mem _ hy)]
namespace Tr
theorem srt_es {n : Nat} {es : List (Str × Tr n)} (hd : DiffBy (·.1) es) : srtBy ltS (·.1) (es.map fun e => (e.1, srt n e.2)) = (srtBy ltS (·.1) es).map fun e => (e.1, srt n e.2) := srtBy_map tot_ltS (k := (·.1)) (f := fun e : Str × Tr n => (e.1, srt n e.2)) (fun _ => rfl) hd
theorem marks_srt : ∀ (n : Nat) (t : Tr n), Ok n t → ∀ p, (marks n p (srt n t)).Perm (marks n p t) ∧ UpBy lexS (·.1) (marks n p (srt n t)) := by
  refine ind (fun n k _ p => ?_) (fun n m es ih ho p => ?_)
  · rw [srt_bag, marks_bag]
    exact ⟨List.Perm.refl _, List.pairwise_singleton _ _⟩
  · obtain ⟨hm, ne, hd, hes⟩ := ho
    rw [srt_tab, srt_es hd, marks_tab, marks_tab, List.flatMap_map]
    refine ⟨List.Perm.cons _ ?_, List.pairwise_cons.mpr ⟨fun q hq => ?_, ?_⟩⟩
    · refine (perm_flatMap_each fun e he => (ih e (srtBy_mem.mp he) (hes e (srtBy_mem.mp he)).2 (p ++ [e.1])).1).trans ?_
      exact perm_flatMap _ (srtBy_perm es)
    · obtain ⟨e, he, hq⟩ := List.mem_flatMap.mp hq
      obtain ⟨r, hr⟩ := marks_pre n (srt n e.2) (p ++ [e.1]) q hq
      show lexS p q.1 = true
      rw [hr]
      have := lexS_pre p [] ([e.1] ++ r)
      rw [List.append_nil] at this
      rw [List.append_assoc, this]
      rfl
    · rw [List.pairwise_flatMap]
      refine ⟨fun e he => (ih e (srtBy_mem.mp he) (hes e (srtBy_mem.mp he)).2 (p ++ [e.1])).2, ?_⟩
      refine (srtBy_up tot_ltS hd).imp fun {a b} hab x hx y hy => ?_
      obtain ⟨r, hr⟩ := marks_pre n (srt n a.2) (p ++ [a.1]) x hx
      obtain ⟨r', hr'⟩ := marks_pre n (srt n b.2) (p ++ [b.1]) y hy
      show lexS x.1 y.1 = true
      rw [hr, hr']
      exact lexS_key hab p r r'
/-- the places sorted -/
theorem marks_sorted {n : Nat} {t : Tr n} (ho : Ok n t) (p : List Str) : srtBy lexS (·.1) (marks n p t) = marks n p (srt n t) :=
  (srtBy_uniq tot_lexS (marks_srt n t ho p).1 (marks_srt n t ho p).2).symm
theorem marks_diff {n : Nat} {t : Tr n} (ho : Ok n t) (p : List Str) : DiffBy (·.1) (marks n p t) := ((marks_srt n t ho p).2.diff tot_lexS).perm (marks_srt n t ho p).1.symm
theorem ok_srt : ∀ (n : Nat) (t : Tr n), Ok n t → Ok n (srt n t) := by
  refine ind (fun n k h => by rw [srt_bag]; exact h) (fun n m es ih ho => ?_)
  obtain ⟨hm, ne, hd, hes⟩ := ho
  rw [srt_tab, srt_es hd, ok_tab]
  refine ⟨hm, fun e => ne ?_, ?_, fun e he => ?_⟩
  · have : (srtBy ltS (·.1) es).length = 0 := by rw [List.map_eq_nil_iff.mp e]; rfl
    rw [srtBy_len] at this
    exact List.eq_nil_of_length_eq_zero this
  · exact List.pairwise_map.mpr (hd.perm (srtBy_perm es))
  · obtain ⟨x, hx, rfl⟩ := List.mem_map.mp he
    have hx' := srtBy_mem.mp hx
    exact ⟨(hes x hx').1, ih x hx' (hes x hx').2⟩
/-- its entries stand ascending -/
def Up : (n : Nat) → Tr n → Prop
  | _, .inl _ => True
  | 0, .inr x => nomatch x
  | n + 1, .inr (_, es) => UpBy ltS (·.1) es ∧ ∀ e ∈ es, Up n e.2
theorem up_tab {n : Nat} {m : Str} {es : List (Str × Tr n)} : Up (n + 1) (tab m es) = (UpBy ltS (·.1) es ∧ ∀ e ∈ es, Up n e.2) := rfl
theorem up_bag {n : Nat} {k : Str} : Up n (bag k) = True := by cases n <;> rfl
theorem srt_up : ∀ (n : Nat) (t : Tr n), Ok n t → Up n (srt n t) := by
  refine ind (fun n k h => by rw [srt_bag, up_bag]; trivial) (fun n m es ih ho => ?_)
  obtain ⟨hm, ne, hd, hes⟩ := ho
  rw [srt_tab, srt_es hd, up_tab]
  refine ⟨List.pairwise_map.mpr (srtBy_up tot_ltS hd), fun e he => ?_⟩
  obtain ⟨x, hx, rfl⟩ := List.mem_map.mp he
  exact ih x (srtBy_mem.mp hx) (hes x (srtBy_mem.mp hx)).2
theorem srt_id : ∀ (n : Nat) (t : Tr n), Up n t → srt n t = t := by
  refine ind (fun n k _ => srt_bag) (fun n m es ih h => ?_)
  obtain ⟨h1, h2⟩ := h
  rw [srt_tab]
  have e : (es.map fun e => (e.1, srt n e.2)) = es := by
    have : es.map (fun e => (e.1, srt n e.2)) = es.map id := List.map_congr_left fun e he => by rw [ih e he (h2 e he)]; rfl
    rw [this, List.map_id]
  rw [e, srtBy_of_up tot_ltS h1]
theorem nb_srt : ∀ (n : Nat) (t : Tr n), Ok n t → nb n (srt n t) = nb n t := by
  refine ind (fun n k _ => by rw [srt_bag]) (fun n m es ih ho => ?_)
  obtain ⟨hm, ne, hd, hes⟩ := ho
  rw [srt_tab, srt_es hd, nb_tab, nb_tab, List.map_map]
  have e : (srtBy ltS (·.1) es).map ((fun e => nb n e.2) ∘ fun e => (e.1, srt n e.2)) = (srtBy ltS (·.1) es).map fun e => nb n e.2 := List.map_congr_left fun e he => ih e (srtBy_mem.mp he) (hes e (srtBy_mem.mp he)).2
  rw [e]
  exact ((srtBy_perm es).map _).sum_nat
end Tr
/-! the rows of a tree: each place with its item -/
structure Row where
  pl : List Str
  k : Nat
  t : Tr k
namespace Tr
def rows : (n : Nat) → List Str → Tr n → List Row
  | n, p, .inl k => [⟨p, n, .inl k⟩]
  | 0, _, .inr x => nomatch x
  | n + 1, p, .inr (m, es) => ⟨p, n + 1, tab m es⟩ :: es.flatMap fun e => rows n (p ++ [e.1]) e.2
theorem rows_bag {n : Nat} {k : Str} {p : List Str} : rows n p (bag k) = [⟨p, n, bag k⟩] := by cases n <;> rfl
theorem rows_tab {n : Nat} {m : Str} {es : List (Str × Tr n)} {p : List Str} : rows (n + 1) p (tab m es) = ⟨p, n + 1, tab m es⟩ :: es.flatMap fun e => rows n (p ++ [e.1]) e.2 := rfl
theorem marks_rows : ∀ (n : Nat) (t : Tr n) (p : List Str), marks n p t = (rows n p t).map fun r => (r.pl, mark r.k r.t) := by
  refine ind (fun n k p => ?_) (fun n m es ih p => ?_)
  · rw [marks_bag, rows_bag, List.map_singleton, mark_bag]
  · rw [marks_tab, rows_tab, List.map_cons, mark_tab, List.map_flatMap]
    congr 1
    exact flatMap_same fun e he => ih e he (p ++ [e.1])
theorem rows_self : ∀ (n : Nat) (t : Tr n) (p : List Str), ⟨p, n, t⟩ ∈ rows n p t := by
  refine ind (fun n k p => ?_) (fun n m es ih p => List.mem_cons_self)
  rw [rows_bag]
  exact List.mem_singleton.mpr rfl
theorem rows_pre : ∀ (n : Nat) (t : Tr n) (p : List Str), ∀ r ∈ rows n p t, ∃ q, r.pl = p ++ q := by
  intro n t p r hr
  have : (r.pl, mark r.k r.t) ∈ marks n p t := by rw [marks_rows]; exact List.mem_map.mpr ⟨r, hr, rfl⟩
  exact marks_pre n t p _ this
/-- what is under an item of a tree is in the tree -/
theorem rows_in : ∀ (n : Nat) (t : Tr n) (p : List Str), ∀ r ∈ rows n p t, ∀ (k : Nat) (m : Str) (es : List (Str × Tr k)), r = ⟨r.pl, k + 1, tab m es⟩ → ∀ e ∈ es, ⟨r.pl ++ [e.1], k, e.2⟩ ∈ rows n p t := by
  refine ind (fun n k p r hr k' m es e x hx => ?_) (fun n m es ih p r hr k' m' es' e x hx => ?_)
  · rw [rows_bag] at hr
    rw [List.mem_singleton.mp hr] at e
    injection e with _ e1 e2
    subst e1
    cases e2
  · rw [rows_tab] at hr ⊢
    rcases List.mem_cons.mp hr with e1 | hr
    · subst e1
      injection e with _ e1 e2
      injection e1 with e1
      subst e1
      have e3 : (m, es) = (m', es') := by
        have := eq_of_heq e2
        injection this
      injection e3 with e4 e5
      subst e5
      exact List.mem_cons_of_mem _ (List.mem_flatMap.mpr ⟨x, hx, rows_self n x.2 _⟩)
    · obtain ⟨y, hy, hr⟩ := List.mem_flatMap.mp hr
      exact List.mem_cons_of_mem _ (List.mem_flatMap.mpr ⟨y, hy, ih y hy _ r hr k' m' es' e x hx⟩)
theorem rows_ok : ∀ (n : Nat) (t : Tr n), Ok n t → ∀ p, ∀ r ∈ rows n p t, Ok r.k r.t ∧ r.k ≤ n := by
  refine ind (fun n k h p r hr => ?_) (fun n m es ih ho p r hr => ?_)
  · rw [rows_bag] at hr
    rw [List.mem_singleton.mp hr]
    exact ⟨h, Nat.le_refl _⟩
  · rw [rows_tab] at hr
    rcases List.mem_cons.mp hr with e1 | hr
    · rw [e1]
      exact ⟨ho, Nat.le_refl _⟩
    · obtain ⟨y, hy, hr⟩ := List.mem_flatMap.mp hr
      have := ih y hy (ho.2.2.2 y hy).2 _ r hr
      exact ⟨this.1, Nat.le_succ_of_le this.2⟩
end Tr
end L2.G42

set_option Elab.async false
set_option linter.all false
set_option maxRecDepth 100000
set_option maxHeartbeats 4000000
namespace L2.G42
open PySem PySem.Spec
def isChild (p q : List Str) : Bool := decide (q.length = p.length + 1) && decide (q.dropLast = p)
def lastS (q : List Str) : Str := q.getLastD ""
/-- the keys under p -/
def ku (ms : List (List Str × Str)) (p : List Str) : List Str := (ms.filter fun q => isChild p q.1).map fun q => lastS q.1
theorem ku_app (a b : List (List Str × Str)) (p : List Str) : ku (a ++ b) p = ku a p ++ ku b p := by
  unfold ku
  rw [List.filter_append, List.map_append]
theorem ku_none {ms : List (List Str × Str)} {p : List Str} (h : ∀ q ∈ ms, isChild p q.1 = false) : ku ms p = [] := by
  unfold ku
  rw [List.filter_eq_nil_iff.mpr fun q hq => by rw [h q hq]; decide]
  rfl
theorem isChild_self (p : List Str) (a : Str) : isChild p (p ++ [a]) = true := by
  unfold isChild
  simp
theorem isChild_len {p q : List Str} (h : q.length ≠ p.length + 1) : isChild p q = false := by
  unfold isChild
  rw [decide_eq_false h]
  rfl
theorem lastS_app (p : List Str) (a : Str) : lastS (p ++ [a]) = a := by
  unfold lastS
  simp
namespace Tr
theorem marks_head : ∀ (n : Nat) (t : Tr n) (p : List Str), ∃ tl, marks n p t = (p, mark n t) :: tl ∧ ∀ q ∈ tl, p.length < q.1.length := by
  refine ind (fun n k p => ⟨[], by rw [marks_bag, mark_bag], by simp⟩) (fun n m es ih p => ⟨_, marks_tab, fun q hq => ?_⟩)
  obtain ⟨e, he, hq⟩ := List.mem_flatMap.mp hq
  obtain ⟨r, hr⟩ := marks_pre n e.2 (p ++ [e.1]) q hq
  rw [hr, List.length_append, List.length_append, List.length_singleton]
  omega
theorem ku_child (n : Nat) (t : Tr n) (p : List Str) (a : Str) : ku (marks n (p ++ [a]) t) p = [a] := by
  obtain ⟨tl, h1, h2⟩ := marks_head n t (p ++ [a])
  rw [h1]
  have : ku tl p = [] := ku_none fun q hq => isChild_len (by have := h2 q hq; simp at this; omega)
  show ku ([(p ++ [a], mark n t)] ++ tl) p = [a]
  rw [ku_app, this, List.append_nil]
  have e : ([(p ++ [a], mark n t)] : List (List Str × Str)).filter (fun q => isChild p q.1) = [(p ++ [a], mark n t)] := by
    rw [List.filter_cons, if_pos (isChild_self p a), List.filter_nil]
  unfold ku
  rw [e, List.map_singleton, lastS_app]
theorem ku_other (n : Nat) (t : Tr n) (p r : List Str) {a b : Str} (h : a ≠ b) : ku (marks n (p ++ [b]) t) ((p ++ [a]) ++ r) = [] := by
  refine ku_none fun q hq => ?_
  obtain ⟨r', hr'⟩ := marks_pre n t (p ++ [b]) q hq
  cases e : isChild ((p ++ [a]) ++ r) q.1 with
  | false => rfl
  | true =>
    unfold isChild at e
    rw [Bool.and_eq_true, decide_eq_true_eq, decide_eq_true_eq] at e
    obtain ⟨e1, e2⟩ := e
    rw [hr'] at e1 e2
    have : r' ≠ [] := fun z => by
      subst z
      simp at e1
    rw [List.dropLast_append_of_ne_nil this] at e2
    exact absurd e2.symm (ne_keys h r r'.dropLast)
theorem ku_rows : ∀ (n : Nat) (t : Tr n), Ok n t → ∀ p, ∀ r ∈ rows n p t, ku (marks n p t) r.pl = keys r.k r.t := by
  refine ind (fun n k _ p r hr => ?_) (fun n m es ih ho p r hr => ?_)
  · rw [rows_bag] at hr
    rw [List.mem_singleton.mp hr, marks_bag, keys_bag]
    exact ku_none fun q hq => by
      rw [List.mem_singleton.mp hq]
      exact isChild_len (by simp)
  · obtain ⟨hm, ne, hd, hes⟩ := ho
    rw [rows_tab] at hr
    have top : ∀ q : List Str, p.length ≤ q.length → ku (marks (n + 1) p (tab m es)) q = ku (es.flatMap fun e => marks n (p ++ [e.1]) e.2) q := fun q hq => by
      have h0 : ku [(p, m)] q = [] := ku_none fun x hx => by
        rw [List.mem_singleton.mp hx]
        exact isChild_len (by show p.length ≠ _; omega)
      rw [marks_tab]
      show ku ([(p, m)] ++ es.flatMap fun e => marks n (p ++ [e.1]) e.2) q = _
      rw [ku_app, h0, List.nil_append]
    rcases List.mem_cons.mp hr with e | hr
    · rw [e, top p (Nat.le_refl _), keys_tab]
      clear e top hr ih hd hes ne
      induction es with
      | nil => rfl
      | cons x es ih => rw [List.flatMap_cons, ku_app, ku_child, List.map_cons, ih]; rfl
    · obtain ⟨e, he, hr2⟩ := List.mem_flatMap.mp hr
      obtain ⟨q, hq⟩ := rows_pre n e.2 (p ++ [e.1]) r hr2
      rw [top r.pl (by rw [hq, List.length_append, List.length_append]; omega)]
      obtain ⟨s, t, rfl⟩ := List.append_of_mem he
      have hd' := List.pairwise_append.mp hd
      have hd2 := List.pairwise_cons.mp hd'.2.1
      have no : ∀ l : List (Str × Tr n), (∀ x ∈ l, x.1 ≠ e.1) → ku (l.flatMap fun e => marks n (p ++ [e.1]) e.2) r.pl = [] := fun l hl => by
        induction l with
        | nil => rfl
        | cons x l ih2 =>
          rw [List.flatMap_cons, ku_app, ih2 fun y hy => hl y (List.mem_cons_of_mem _ hy), hq, ku_other n x.2 p q (hl x List.mem_cons_self).symm]
          rfl
      rw [List.flatMap_append, List.flatMap_cons, ku_app, ku_app, no s fun x hx => hd'.2.2 x hx e List.mem_cons_self, no t fun x hx => (hd2.1 x hx).symm, ih e he (hes e he).2 (p ++ [e.1]) r hr2]
      simp
theorem rows_bag_mark : ∀ (n : Nat) (t : Tr n), Ok n t → (kinds.contains (mark n t) = true ↔ t.isLeft = true) := by
  refine ind (fun n k h => ?_) (fun n m es _ h => ?_)
  · rw [mark_bag]
    exact ⟨fun _ => rfl, fun _ => List.contains_iff_mem.mpr (by rw [← ok_bag (n := n)]; exact h)⟩
  · rw [mark_tab, kinds_not h.1]
    exact ⟨fun q => (nomatch q), fun q => (nomatch q)⟩
end Tr
/-! marks looked up -/
theorem val_mem {ms : List (List Str × Str)} (hd : DiffBy (·.1) ms) {p : List Str} {k : Str} (h : (p, k) ∈ ms) : valV (kmk ms) (kp p) = some (.str k) := by
  induction ms with
  | nil => cases h
  | cons q ms ih =>
    have hd' := List.pairwise_cons.mp hd
    show ((kmk (q :: ms)).find? _).map _ = _
    rw [show kmk (q :: ms) = (kp q.1, V.str q.2) :: kmk ms from rfl, List.find?_cons]
    rcases List.mem_cons.mp h with e | h
    · rw [← e]
      simp
    · have ne : ¬ kp q.1 = kp p := fun e => hd'.1 _ h (kp_inj e)
      simp only [decide_eq_false ne]
      exact ih hd'.2 h
theorem val_not {ms : List (List Str × Str)} {k : List Key} (h : ∀ q ∈ ms, kp q.1 ≠ k) : valV (kmk ms) k = none := by
  unfold valV
  rw [Option.map_eq_none_iff, List.find?_eq_none]
  intro q hq e
  obtain ⟨x, hx, rfl⟩ := List.mem_map.mp hq
  exact h x hx (of_decide_eq_true e)
theorem val_row {n : Nat} {t : Tr n} (ho : Tr.Ok n t) {p : List Str} {r : Row} (hr : r ∈ Tr.rows n p t) : valV (kmk (Tr.marks n p t)) (kp r.pl) = some (.str (Tr.mark r.k r.t)) :=
  val_mem (Tr.marks_diff ho p) (by rw [Tr.marks_rows]; exact List.mem_map.mpr ⟨r, hr, rfl⟩)
theorem putM_new {ms : List (List Str × Str)} {p : List Str} (h : ∀ q ∈ ms, q.1 ≠ p) (k : Str) : putK (kmk ms) (kp p) (.str k) = kmk (ms ++ [(p, k)]) := by
  unfold putK
  rw [if_neg]
  · rw [kmk_app]; rfl
  · intro e
    obtain ⟨q, hq, e⟩ := List.any_eq_true.mp e
    obtain ⟨x, hx, rfl⟩ := List.mem_map.mp hq
    exact h x hx (kp_inj (of_decide_eq_true e))
end L2.G42

set_option Elab.async false
set_option linter.all false
set_option maxRecDepth 100000
set_option maxHeartbeats 4000000
namespace L2.G42
open PySem PySem.Spec PyProof.Rows
section
variable {X : Cx} {K : PySem.W.Frag}
/-! rules with the written part named (within a comprehension) -/
theorem kLen (hK : X.K = K) : CallR X (.builtin "len") (fun xs H Q => ∃ p ys, xs = [.ref p] ∧ (SqL K H p ys ∨ SqT K H p ys) ∧ Q (.int ys.length) H) := by subst hK; exact call_len_seq
theorem kIxL (hK : X.K = K) : IxR X (rIxL K) := by subst hK; exact ix_list
theorem kIxT (hK : X.K = K) : IxR X (rIxT K) := by subst hK; exact ix_tup
theorem kSlT (hK : X.K = K) : SlR X (rSlA K) := by subst hK; exact sl_tupA
theorem kSlL (hK : X.K = K) : SlR X (rSlL K) := by subst hK; exact sl_list
theorem kEqD (hK : X.K = K) (hu : X.A.units + 64 < cLine) : OpR X (compareOp .Eq) (rEqD K) := by subst hK; exact op_eqD hu
theorem kNeD (hK : X.K = K) (hu : X.A.units + 64 < cLine) : OpR X (compareOp .NotEq) (rNeD K) := by subst hK; exact op_neD hu
theorem kIn (hK : X.K = K) : OpR X (compareOp .In) (rIn K false) := by subst hK; exact op_in_seq
theorem kNotIn (hK : X.K = K) : OpR X (compareOp .NotIn) (rIn K true) := by subst hK; exact op_notIn_seq
theorem kCatT (hK : X.K = K) : OpR X (binaryOp .Add) (rCatA K) := by subst hK; exact op_catA
theorem kListOf (hK : X.K = K) : CallR X (.type "list") (fun xs H Q => ∃ p ys, xs = [.ref p] ∧ (SqL K H p ys ∨ SqT K H p ys) ∧ ∀ l, H l = none → Q (.ref l) (upd H l (.lst ys))) := by subst hK; exact call_list_of
theorem kTupOf (hK : X.K = K) : CallR X (.type "tuple") (fun xs H Q => ∃ p ys, xs = [.ref p] ∧ ((SqL K H p ys ∧ ∀ l, H l = none → Q (.ref l) (upd H l (.tup ys))) ∨ (SqT K H p ys ∧ Q (.ref p) H))) := by subst hK; exact call_tuple_of
theorem kSortLS (hK : X.K = K) (hu : X.A.units + 64 < cLine) : CallR X (.builtin "sorted") (rSortLS K) := by subst hK; exact cr_sortLS hu
theorem kIsi (hK : X.K = K) : CallR X (.builtin "isinstance") (rIsi K) := by subst hK; exact call_isi
/-! ' ' * k -/
def rRepS : R2 := fun x y H Q => ∃ k : Nat, x = .str " " ∧ y = .int k ∧ k ≤ 1000 ∧ Q (.str (tx (List.replicate k 32))) H
theorem rep_cps : ∀ k : Nat, (List.replicate k (Str.ofString " ").cps).foldl (· ++ ·) (#[] : Array Nat) = (List.replicate k 32).toArray := by
  have gen : ∀ (k : Nat) (a : Array Nat), (List.replicate k (Str.ofString " ").cps).foldl (· ++ ·) a = a ++ (List.replicate k 32).toArray := by
    intro k
    induction k with
    | zero => intro a; simp
    | succ k ih =>
      intro a
      have e : (Str.ofString " ").cps = #[32] := by decide +kernel
      rw [List.replicate_succ, List.foldl_cons, ih, List.replicate_succ, e]
      apply Array.toList_inj.mp
      simp
  intro k
  rw [gen]
  simp
theorem op_repS : OpR X (binaryOp .Mult) rRepS := by
  intro pins s σ H x y u v Q I rx ry h
  obtain ⟨k, rfl, rfl, hk, q⟩ := h
  obtain ⟨t, rfl⟩ := rx
  obtain ⟨t', rfl⟩ := ry
  have l1 : (Str.ofString " ").length = 1 := by decide +kernel
  refine PySem.P.mul_str ?_ (fun _ _ => ?_) (fun _ _ => ?_) ?_
  · rw [decide_eq_false (by omega), decide_eq_false (by omega)]
    rfl
  · rw [l1]
    have : (2 ^ 63 - 1 : Int) / (k : Int) ≥ 1 ∨ (k : Int) = 0 := by
      by_cases h0 : k = 0
      · right; omega
      · left
        exact Int.le_ediv_of_mul_le (by omega) (by omega)
    rcases this with h | h
    · omega
    · rename_i h1 _
      omega
  · rw [l1]
    have : k < sizeLine := szl (by omega)
    refine decide_eq_false ?_
    have e : (k : Int).toNat = k := by omega
    rw [e]
    omega
  · split
    · have : k = 0 := by omega
      subst this
      exact ⟨by decide, ⟨.str _, H, I.tok _, ⟨_, rfl⟩, q⟩⟩
    · split
      · rename_i h1 h2
        have : k = 1 := by
          rw [l1] at h2
          simp at h2
          omega
        subst this
        have e : (tx (List.replicate 1 32) : Str) = Str.ofString " " := by decide +kernel
        rw [e] at q
        exact ⟨.str _, H, I, ⟨_, rfl⟩, q⟩
      · have e : (k : Int).toNat = k := by omega
        rw [e, rep_cps]
        refine ⟨?_, ⟨.str _, H, I.tok _, ⟨_, rfl⟩, q⟩⟩
        have : k < sizeLine := szl (by omega)
        show (List.replicate k 32).toArray.size ≤ sizeLine
        simp
        omega
end
/-! tuples and lists of texts as data -/
def dS (xs : List Str) : List PyData := xs.map PyData.str
theorem dpS {K : PySem.W.Frag} {H : Hp} : ∀ xs : List Str, DpAll K H (xs.map V.str) (dS xs)
  | [] => .nil
  | x :: xs => .cons (.str x) (dpS xs)
/-- texts that can be shown -/
def SoAll (xs : List Str) : Prop := ∀ x ∈ xs, PyData.strOk x = true
theorem canS : ∀ xs : List Str, SoAll xs → PyData.canLayAll0 (dS xs) = true
  | [], _ => by simp [dS, PyData.canLayAll0]
  | x :: xs, h => by
    show PyData.canLayAll0 (.str x :: dS xs) = true
    rw [PyData.canLayAll0, canS xs fun y hy => h y (List.mem_cons_of_mem _ hy)]
    simp [PyData.canLay0, h x List.mem_cons_self]
theorem depS : ∀ xs : List Str, PyData.depthAll (dS xs) = 0
  | [] => by simp [dS, PyData.depthAll]
  | x :: xs => by
    show PyData.depthAll (.str x :: dS xs) = 0
    rw [PyData.depthAll, depS xs]
    simp [PyData.depth]
theorem shapedT {xs : List Str} (h : SoAll xs) : SeqAt.shaped (.tuple (dS xs)) = true := by
  refine Bool.and_eq_true_iff.mpr ⟨?_, decide_eq_true ?_⟩
  · rw [PyData.canLay0]; exact canS xs h
  · rw [PyData.depth, depS xs]; decide
theorem shapedL {xs : List Str} (h : SoAll xs) : SeqAt.shaped (.list (dS xs)) = true := by
  refine Bool.and_eq_true_iff.mpr ⟨?_, decide_eq_true ?_⟩
  · rw [PyData.canLay0]; exact canS xs h
  · rw [PyData.depth, depS xs]; decide
theorem eqv_strs : ∀ xs ys : List Str, PyData.eqvAll (dS xs) (dS ys) = decide (xs = ys)
  | [], [] => by simp [dS, PyData.eqvAll]
  | [], y :: ys => by simp [dS, PyData.eqvAll]
  | x :: xs, [] => by simp [dS, PyData.eqvAll]
  | x :: xs, y :: ys => by
    show PyData.eqvAll (.str x :: dS xs) (.str y :: dS ys) = _
    rw [PyData.eqvAll, eqv_strs xs ys]
    have : PyData.eqv (.str x) (.str y) = decide (x = y) := by
      rw [PyData.eqv]
      rw [Bool.eq_iff_iff, decide_eq_true_eq]
      exact beq_iff_eq
    rw [this]
    by_cases h : x = y
    · subst h; simp
    · simp [h]
theorem eqv_tup (xs ys : List Str) : PyData.eqv (.tuple (dS xs)) (.tuple (dS ys)) = decide (xs = ys) := by
  rw [PyData.eqv, eqv_strs]
theorem eqv_lst (xs ys : List Str) : PyData.eqv (.list (dS xs)) (.list (dS ys)) = decide (xs = ys) := by
  rw [PyData.eqv, eqv_strs]
theorem kV_kp (p : List Str) : (kp p).map kV = p.map V.str := by
  unfold kp
  rw [List.map_map]
  rfl
theorem dpT {K : PySem.W.Frag} {H : Hp} {a : Addr} {p : List Str} (h : SqT K H a (p.map V.str)) : Dp K H (.ref a) (.tuple (dS p)) := .tup h (dpS p)
theorem dpL {K : PySem.W.Frag} {H : Hp} {a : Addr} {p : List Str} (h : SqL K H a (p.map V.str)) : Dp K H (.ref a) (.list (dS p)) := .lst h (dpS p)
theorem key_so {x : Str} (h : isKey x = true) : PyData.strOk x = true := by
  unfold isKey at h
  simp only [Bool.and_eq_true] at h
  have h2 := List.all_eq_true.mp h.2.2
  unfold PyData.strOk
  rw [Array.all_eq_true_iff_forall_mem]
  intro c hc
  have := h2 c (Array.mem_toList_iff.mpr hc)
  unfold letter at this
  simp at this
  simp
  omega
theorem key_len {x : Str} (h : isKey x = true) : 1 ≤ x.length ∧ x.length ≤ 8 := by
  unfold isKey at h
  simp only [Bool.and_eq_true, decide_eq_true_eq] at h
  exact h.1
end L2.G42

set_option Elab.async false
set_option linter.all false
set_option maxRecDepth 100000
set_option maxHeartbeats 4000000
namespace L2.G42
open PySem PySem.Spec
def SoMs (ms : List (List Str × Str)) : Prop := ∀ q ∈ ms, SoAll q.1
theorem SoAll.app {p q : List Str} (h : SoAll p) (h2 : SoAll q) : SoAll (p ++ q) := fun x hx => (List.mem_append.mp hx).elim (h x) (h2 x)
theorem SoAll.one {x : Str} (h : PyData.strOk x = true) : SoAll [x] := fun y hy => by rw [List.mem_singleton.mp hy]; exact h
namespace Tr
theorem so_marks : ∀ (n : Nat) (t : Tr n), Ok n t → ∀ p, SoAll p → SoMs (marks n p t) := by
  refine ind (fun n k _ p hp q hq => ?_) (fun n m es ih ho p hp q hq => ?_)
  · rw [marks_bag] at hq
    rw [List.mem_singleton.mp hq]
    exact hp
  · rw [marks_tab] at hq
    rcases List.mem_cons.mp hq with e | hq
    · rw [e]; exact hp
    · obtain ⟨e, he, hq⟩ := List.mem_flatMap.mp hq
      exact ih e he (ho.2.2.2 e he).2 _ (hp.app (SoAll.one (key_so (ho.2.2.2 e he).1))) q hq
theorem rows_len : ∀ (n : Nat) (t : Tr n) (p : List Str), ∀ r ∈ rows n p t, (rows r.k r.pl r.t).length ≤ (rows n p t).length := by
  refine ind (fun n k p r hr => ?_) (fun n m es ih p r hr => ?_)
  · rw [rows_bag] at hr
    rw [List.mem_singleton.mp hr]
    exact Nat.le_refl _
  · rw [rows_tab] at hr ⊢
    rcases List.mem_cons.mp hr with e1 | hr
    · rw [e1]
      exact Nat.le_refl _
    · obtain ⟨y, hy, hr⟩ := List.mem_flatMap.mp hr
      have h1 := ih y hy _ r hr
      obtain ⟨a, b, rfl⟩ := List.append_of_mem hy
      rw [List.flatMap_append, List.flatMap_cons, List.length_cons, List.length_append, List.length_append]
      omega
theorem marks_len (n : Nat) (t : Tr n) (p : List Str) : (marks n p t).length = (rows n p t).length := by rw [marks_rows, List.length_map]
theorem join_len (y : Str) : ∀ xs : List Str, (Txt.join y xs).length ≤ (xs.map fun x => x.length + y.length).sum
  | [] => by
    rw [TL.join_eq]
    exact Nat.zero_le _
  | [x] => by
    rw [TL.join_eq]
    show x.length ≤ _
    simp
  | x :: z :: r => by
    have ih := join_len y (z :: r)
    rw [TL.join_eq] at ih ⊢
    show (x ++ y ++ Str.join y (z :: r)).length ≤ _
    rw [List.map_cons, List.sum_cons]
    have e : (x ++ y ++ Str.join y (z :: r)).length = x.length + y.length + (Str.join y (z :: r)).length := by
      show ((x.cps ++ y.cps) ++ (Str.join y (z :: r)).cps).size = _
      rw [Array.size_append, Array.size_append]
      rfl
    omega
theorem app_len (x y : Str) : (x ++ y).length = x.length + y.length := by
  show (x.cps ++ y.cps).size = _
  rw [Array.size_append]
  rfl
theorem sum_le {α : Type} {f g : α → Nat} : ∀ {l : List α}, (∀ x ∈ l, f x ≤ g x) → (l.map f).sum ≤ (l.map g).sum
  | [], _ => Nat.le_refl _
  | x :: l, h => by
    rw [List.map_cons, List.map_cons, List.sum_cons, List.sum_cons]
    exact Nat.add_le_add (h x List.mem_cons_self) (sum_le fun y hy => h y (List.mem_cons_of_mem _ hy))
theorem sum_mul {α : Type} {f : α → Nat} (c : Nat) : ∀ l : List α, (l.map fun x => c * f x).sum = c * (l.map f).sum
  | [] => rfl
  | x :: l => by rw [List.map_cons, List.map_cons, List.sum_cons, List.sum_cons, sum_mul c l, Nat.mul_add]
theorem len_flatMap {α β : Type} {f : α → List β} : ∀ l : List α, (l.flatMap f).length = (l.map fun x => (f x).length).sum
  | [] => rfl
  | x :: l => by rw [List.flatMap_cons, List.length_append, List.map_cons, List.sum_cons, len_flatMap l]
theorem mode_len {m : Str} (h : m ∈ modes) : m.length = 4 := by
  have : ∀ m ∈ modes, m.length = 4 := by decide +kernel
  exact this m h
theorem kind_len {m : Str} (h : m ∈ kinds) : m.length = 1 := by
  have : ∀ m ∈ kinds, m.length = 1 := by decide +kernel
  exact this m h
theorem len_at : ∀ (n : Nat) (t : Tr n) (p q : List Str), (rows n p t).length = (rows n q t).length := by
  refine ind (fun n k p q => by rw [rows_bag, rows_bag]; rfl) (fun n m es ih p q => ?_)
  rw [rows_tab, rows_tab, List.length_cons, List.length_cons, len_flatMap, len_flatMap]
  congr 2
  exact List.map_congr_left fun e he => ih e he _ _
theorem text_len : ∀ (n : Nat) (t : Tr n), Ok n t → ∀ p, (text n t).length + 10 ≤ 27 * (rows n p t).length ∧ (form n t).length + 10 ≤ 27 * (rows n p t).length := by
  refine ind (fun n k h p => ?_) (fun n m es ih ho p => ?_)
  · rw [text_bag, form_bag, rows_bag, kind_len (by rw [← ok_bag (n := n)]; exact h)]
    have c0 : (Str.ofString "*").length = 1 := by decide +kernel
    rw [c0]
    exact ⟨(by decide : 1 + 10 ≤ 27 * 1), (by decide : 1 + 10 ≤ 27 * 1)⟩
  · obtain ⟨hm, ne, hd, hes⟩ := ho
    rw [text_tab, form_tab, rows_tab, List.length_cons, len_flatMap]
    have c1 : (Str.ofString ",").length = 1 := by decide +kernel
    have c2 : (Str.ofString ":").length = 1 := by decide +kernel
    have c3 : (Str.ofString "{").length = 1 := by decide +kernel
    have c4 : (Str.ofString "}").length = 1 := by decide +kernel
    have j1 := join_len "," (es.map fun e => e.1 ++ ":" ++ text n e.2)
    have j2 := join_len "," (es.map fun e => e.1 ++ ":" ++ form n e.2)
    rw [List.map_map] at j1 j2
    have s1 : (es.map ((fun x : Str => x.length + (Str.ofString ",").length) ∘ fun e => e.1 ++ ":" ++ text n e.2)).sum ≤ (es.map fun e => 27 * (rows n (p ++ [e.1]) e.2).length).sum := sum_le fun e he => by
      have a := (ih e he (hes e he).2 (p ++ [e.1])).1
      have b := key_len (hes e he).1
      show (e.1 ++ ":" ++ text n e.2).length + _ ≤ _
      rw [app_len, app_len, c1, c2]
      omega
    have s2 : (es.map ((fun x : Str => x.length + (Str.ofString ",").length) ∘ fun e => e.1 ++ ":" ++ form n e.2)).sum ≤ (es.map fun e => 27 * (rows n (p ++ [e.1]) e.2).length).sum := sum_le fun e he => by
      have a := (ih e he (hes e he).2 (p ++ [e.1])).2
      have b := key_len (hes e he).1
      show (e.1 ++ ":" ++ form n e.2).length + _ ≤ _
      rw [app_len, app_len, c1, c2]
      omega
    rw [sum_mul] at s1 s2
    rw [app_len, app_len, app_len, app_len, app_len, c3, c4, mode_len hm]
    constructor <;> omega
end Tr
end L2.G42

set_option Elab.async false
set_option linter.all false
set_option maxRecDepth 100000
set_option maxHeartbeats 4000000
namespace L2.G42
open PySem PySem.Spec
/-- marks in the heap: those of a tree -/
structure MkAt (H : Hp) (D : Addr) (n : Nat) (t : Tr n) : Prop where
  at_ : H D = some (.dT (kmk (Tr.marks n [] t)))
  ok : Tr.Ok n t
  few : (Tr.rows n [] t).length ≤ 1000
  lv : n ≤ 10
theorem MkAt.grow {H H' : Hp} {D : Addr} {n : Nat} {t : Tr n} (h : MkAt H D n t) (g : But (fun _ => False) H H') : MkAt H' D n t := ⟨g _ _ h.at_ id, h.ok, h.few, h.lv⟩
theorem MkAt.so {H : Hp} {D : Addr} {n : Nat} {t : Tr n} (h : MkAt H D n t) : SoMs (Tr.marks n [] t) := Tr.so_marks n t h.ok [] (fun x hx => by cases hx)
/-- the text of an item, or its form -/
def shw (b : Bool) (n : Nat) (t : Tr n) : Str := if b = true then Tr.text n t else Tr.form n t
theorem shw_tab {b : Bool} {n : Nat} {m : Str} {es : List (Str × Tr n)} : shw b (n + 1) (Tr.tab m es) = (if b = true then m else "") ++ "{" ++ Txt.join "," (es.map fun e => e.1 ++ ":" ++ shw b n e.2) ++ "}" := by
  cases b with
  | true => rfl
  | false =>
    show Tr.form (n + 1) (Tr.tab m es) = _
    rw [Tr.form_tab]
    have : ∀ x : Str, Str.ofString "" ++ x = x := fun x => by
      apply str_ext
      show ((Str.ofString "").cps ++ x.cps).toList = _
      have e : (Str.ofString "").cps = #[] := by decide +kernel
      rw [e]
      simp
    show _ = Str.ofString "" ++ Str.ofString "{" ++ _ ++ _
    rw [this]
    rfl
theorem shw_len {b : Bool} {n : Nat} {t : Tr n} (h : Tr.Ok n t) (p : List Str) : (shw b n t).length + 10 ≤ 27 * (Tr.rows n p t).length := by
  cases b
  · exact (Tr.text_len n t h p).2
  · exact (Tr.text_len n t h p).1
theorem parts_len {b : Bool} {n : Nat} {m : Str} {es : List (Str × Tr n)} (ho : Tr.Ok (n + 1) (Tr.tab m es)) (p : List Str) : ((es.map fun e => e.1 ++ ":" ++ shw b n e.2).map (·.length)).sum ≤ 27 * (Tr.rows (n + 1) p (Tr.tab m es)).length := by
  rw [List.map_map, Tr.rows_tab, List.length_cons, Tr.len_flatMap]
  have c2 : (Str.ofString ":").length = 1 := by decide +kernel
  have s1 : (es.map ((fun x : Str => x.length) ∘ fun e => e.1 ++ ":" ++ shw b n e.2)).sum ≤ (es.map fun e => 27 * (Tr.rows n (p ++ [e.1]) e.2).length).sum := Tr.sum_le fun e he => by
    have a := shw_len (b := b) (ho.2.2.2 e he).2 (p ++ [e.1])
    have b := key_len (ho.2.2.2 e he).1
    show (e.1 ++ ":" ++ shw _ n e.2).length ≤ _
    rw [Tr.app_len, Tr.app_len, c2]
    omega
  rw [Tr.sum_mul] at s1
  omega
/-- the text of the item at a place; at most n levels -/
def spWr (K : PySem.W.Frag) (n : Nat) : Sp := fun vs H Q _ => ∃ (D pl : Addr) (b : Bool) (N : Nat) (t : Tr N) (r : Row), vs = [.ref D, .ref pl, .bl b] ∧ MkAt H D N t ∧ r ∈ Tr.rows N [] t ∧ r.k ≤ n ∧ SqT K H pl (r.pl.map V.str) ∧
  ∀ H' : Hp, But (fun _ => False) H H' → Q (.str (shw b r.k r.t)) H'
def spKu (K : PySem.W.Frag) : Sp := fun vs H Q _ => ∃ (D pl : Addr) (ms : List (List Str × Str)) (p : List Str), vs = [.ref D, .ref pl] ∧ H D = some (.dT (kmk ms)) ∧ SqT K H pl (p.map V.str) ∧ SoMs ms ∧ SoAll p ∧ ms.length ≤ 1000 ∧
  ∀ (q : Addr) (H' : Hp), H q = none → H' q = some (.tup ((ku ms p).map V.str)) → But (fun _ => False) H H' → Q (.ref q) H'
theorem row_so {H : Hp} {D : Addr} {n : Nat} {t : Tr n} (h : MkAt H D n t) {r : Row} (hr : r ∈ Tr.rows n [] t) : SoAll r.pl := by
  have : (r.pl, Tr.mark r.k r.t) ∈ Tr.marks n [] t := by rw [Tr.marks_rows]; exact List.mem_map.mpr ⟨r, hr, rfl⟩
  exact h.so _ this
/-- a row is a bag's or a table's -/
theorem row_cases (r : Row) : (∃ k, r.t = .inl k) ∨ ∃ (n : Nat) (m : Str) (es : List (Str × Tr n)), r = ⟨r.pl, n + 1, Tr.tab m es⟩ := by
  obtain ⟨pl, k, t⟩ := r
  cases t with
  | inl k => exact .inl ⟨k, rfl⟩
  | inr x =>
    cases k with
    | zero => cases x
    | succ n => exact .inr ⟨n, x.1, x.2, rfl⟩
theorem Tr.rows_lev : ∀ (n : Nat) (t : Tr n) (p : List Str), ∀ r ∈ rows n p t, r.pl.length + r.k = p.length + n := by
  refine ind (fun n k p r hr => ?_) (fun n m es ih p r hr => ?_)
  · rw [rows_bag] at hr
    rw [List.mem_singleton.mp hr]
  · rw [rows_tab] at hr
    rcases List.mem_cons.mp hr with e1 | hr
    · rw [e1]
    · obtain ⟨y, hy, hr⟩ := List.mem_flatMap.mp hr
      have := ih y hy _ r hr
      rw [List.length_append, List.length_singleton] at this
      omega
theorem Tr.rows_pos : ∀ (n : Nat) (t : Tr n) (p : List Str), 1 ≤ (rows n p t).length := by
  refine ind (fun n k p => ?_) (fun n m es _ p => ?_)
  · rw [rows_bag]; exact Nat.le_refl _
  · rw [rows_tab, List.length_cons]; omega
theorem Tr.es_len {n : Nat} {m : Str} {es : List (Str × Tr n)} {p : List Str} : es.length + 1 ≤ (rows (n + 1) p (tab m es)).length := by
  rw [rows_tab, List.length_cons, len_flatMap]
  have h : (es.map fun _ => 1).sum ≤ (es.map fun e => (rows n (p ++ [e.1]) e.2).length).sum := sum_le fun e _ => rows_pos n e.2 _
  have : ∀ l : List (Str × Tr n), (l.map fun _ => 1).sum = l.length := fun l => by
    induction l with
    | nil => rfl
    | cons x l ih => rw [List.map_cons, List.sum_cons, ih, List.length_cons]; omega
  rw [this] at h
  omega
/-- place + (key,) -/
theorem cat_place {K : PySem.W.Frag} {H : Hp} {a b : Addr} {p : List Str} {key : Str} {Q : VK} (ha : SqT K H a (p.map V.str)) (hb : H b = some (.tup [V.str key])) (hl : p.length ≤ 1000) (k : ∀ c H', But (fun _ => False) H H' → H' c = some (.tup ((p ++ [key]).map V.str)) → Q (.ref c) H') : rCatA K (.ref a) (.ref b) H Q := by
  refine ⟨a, b, _, _, rfl, rfl, ha, .inl (.inl hb), szle (by rw [List.length_map]; simp; omega), fun e => k b H But.refl ?_, fun _ e => (nomatch e), fun _ _ c hc => k c _ (But.new hc) ?_⟩
  · have : p = [] := List.map_eq_nil_iff.mp e
    subst this
    exact hb
  · rw [upd_same, List.map_append, List.map_singleton]
end L2.G42

set_option Elab.async false
set_option linter.all false
set_option maxRecDepth 100000
set_option maxHeartbeats 4000000
namespace L2.G42
open PySem PySem.Spec PyProof.Rows
theorem dcT_it {J : It} {n : Nat} {G : Hp → Prop} {Y : Nat → Hp → V → Hp → Prop} (wk : Walk J n G Y) {g : TG} {tt : TT} {tk tv : TE} {vs : List Nat} {σ : St} {H1 : Hp} {N : Addr} {Qd : Hp → Prop} (Pv : Nat → Hp → Prop) (h0 : Pv 0 (upd H1 N (.dT []))) (hG : ∀ i H, i ≤ n → Pv i H → G H)
    (hs : ∀ i x H H', i < n → Pv i H → Y i H x H' → g x (wipe σ vs) H' fun σ2 H2 => wipe σ2 vs = wipe σ vs ∧ tt σ2 H2 fun b H3 =>
      if b = true then tk σ2 H3 fun y H4 => tv σ2 H4 fun z H5 => ∃ c kvs k, y = .ref c ∧ H5 c = some (.tup (k.map kV)) ∧ H5 N = some (.dT kvs) ∧ kvs.length < sizeLine ∧ Pv (i + 1) (upd H5 N (.dT (putK kvs k z))) else Pv (i + 1) H3) (hd : ∀ H, Pv n H → Qd H) :
    ∃ V : Nat → Nat → Hp → Prop, (∃ m, V 0 m (upd H1 N (.dT []))) ∧ ∀ i m H, V i m H →
      (J.stop i H ∧ Qd H) ∨ (J.go i H ∧ ∃ Z : Hp → Prop, (∀ H', Z H' → ∃ m', m' < m ∧ V (i + 1) m' H') ∧ ∀ x H', J.yld i H x H' → g x (wipe σ vs) H' fun σ2 H2 => wipe σ2 vs = wipe σ vs ∧ tt σ2 H2 fun b H3 =>
        if b = true then tk σ2 H3 fun y H4 => tv σ2 H4 fun z H5 => ∃ c kvs k, y = .ref c ∧ H5 c = some (.tup (k.map kV)) ∧ H5 N = some (.dT kvs) ∧ kvs.length < sizeLine ∧ Z (upd H5 N (.dT (putK kvs k z))) else Z H3) := by
  refine ⟨fun i m H => m = n - i ∧ i ≤ n ∧ Pv i H, ⟨n, rfl, Nat.zero_le _, h0⟩, ?_⟩
  rintro i m H ⟨rfl, hi, p⟩
  have q := hG i H hi p
  rcases Nat.lt_or_ge i n with lt | ge
  · exact .inr ⟨wk.goes i H lt q, Pv (i + 1), fun H' p' => ⟨n - (i + 1), by omega, rfl, lt, p'⟩, fun x H' y => hs i x H H' lt p (wk.yields i H x H' lt q y)⟩
  · obtain rfl : i = n := Nat.le_antisymm hi ge
    exact .inl ⟨wk.stops H q, hd H p⟩
theorem keys_zip {H : Hp} : ∀ {ms : List (List Str × Str)} {bs : List Addr}, IsKeys H (kmk ms) bs → bs.length = ms.length ∧ ∀ e ∈ bs.zip ms, H e.1 = some (.tup (e.2.1.map V.str))
  | [], [], _ => ⟨rfl, fun e he => by cases he⟩
  | [], _ :: _, h => by cases h
  | _ :: _, [], h => by cases h
  | q :: ms, b :: bs, h => by
    cases h with
    | cons h1 h2 =>
      obtain ⟨l, k⟩ := keys_zip (ms := ms) (bs := bs) h2
      refine ⟨by rw [List.length_cons, List.length_cons, l], fun e he => ?_⟩
      rcases List.mem_cons.mp he with e1 | he
      · rw [e1]
        have h1' : H b = some (.tup ((kp q.1).map kV)) := h1
        rw [kV_kp] at h1'
        exact h1'
      · exact k e he
theorem zip_fst {α β : Type} : ∀ {as : List α} {bs : List β}, as.length = bs.length → (as.zip bs).map Prod.fst = as
  | [], [], _ => rfl
  | [], _ :: _, h => by cases h
  | _ :: _, [], h => by cases h
  | a :: as, b :: bs, h => by
    rw [List.zip_cons_cons, List.map_cons, zip_fst (by simpa using h)]
theorem zip_snd {α β : Type} : ∀ {as : List α} {bs : List β}, as.length = bs.length → (as.zip bs).map Prod.snd = bs
  | [], [], _ => rfl
  | [], _ :: _, h => by cases h
  | _ :: _, [], h => by cases h
  | a :: as, b :: bs, h => by
    rw [List.zip_cons_cons, List.map_cons, zip_snd (by simpa using h)]
/-- the class Book -/
structure BkT (K : PySem.W.Frag) (BK : Addr) : Prop where
  cl : Cls K BK
  nM : NoAttr K BK "marks"
/-- Book.__init__ -/
def spBInit (BK : Addr) : Sp := fun vs H Q _ => ∃ (b dx D0 : Addr) (ms : List (List Str × Str)), vs = [.ref b, .ref D0] ∧ H b = some (.ins BK dx []) ∧ H D0 = some (.dT (kmk ms)) ∧ DiffBy (·.1) ms ∧ ms.length ≤ 1000 ∧ (∃ q r, ms = q :: r ∧ q.1 = []) ∧
  ∀ (D : Addr) (H' : Hp), H D = none → H' b = some (.ins BK dx [("marks", .ref D)]) → H' D = some (.dT (kmk (srtBy lexS (·.1) ms))) → But (· = b) H H' → Q .non H'
end L2.G42

set_option Elab.async false
set_option linter.all false
set_option maxRecDepth 100000
set_option maxHeartbeats 4000000
namespace L2.G42
open PySem PySem.Spec PyProof.Rows
open _root_.ClX (CRead CVal CMet)
/-- a classmethod that may raise -/
structure CmX (P : Program) (w : World) (K : PySem.W.Frag) (mg : Str → Option Value) (base : Heap) (k : Nat) (C : Addr) (mc : Value) (m : Str) (sp : Sp) : Prop where
  ex : ∃ (p f : Addr) (fd : FuncData) (ps : List Str), CRead K C mc ∧ CMet K C mc m p f ∧ FnOk P w K mg base (L2.CX P w) k f fd ps sp ∧ Binds K fd ps []
/-- the class at C, made by a value that is it -/
structure NwV (P : Program) (w : World) (K : PySem.W.Frag) (mg : Str → Option Value) (base : Heap) (k : Nat) (C : Addr) (sp : Sp) (dvs : List V) : Prop where
  ex : ∃ (f : Addr) (fd : FuncData) (ps : List Str) (ds : List Value), Mk K C f ∧ FnOk P w K mg base CX0 k f fd ps sp ∧ Binds K fd ps ds ∧ Vals dvs ds
section
variable {X : Cx} {k j i : Nat} {C : Addr} {mc : Value} {x m : Str} {sp : Sp} {p pos apos : Pos} {e o : Expr} {es : List Expr} {ta : TE} {t : TA} {W : WX}
theorem run_cE {CX : CXT} {E : St → XK} {f : Addr} {fd : FuncData} {ps : List Str} {pins : List (Addr × Obj)} {σ : St} {H : Hp} {s : Shared} {Q : VK} {us : List Value} {vs : List V} (F : FnOk X.prog X.w X.K X.mg X.base CX k f fd ps sp) (hr : Room k X.A) (hb : Binds X.K fd ps []) (hx : PassesAt CX X σ (E σ))
    (I : Inv X pins σ H s) (r : Vals vs us) (h : sp vs H Q (E σ)) : codeAny (model X.prog X.w) X.A (.call (.ref f) ⟨us, []⟩) (fun r s' => match r with | .ok (.ret v) => EP X pins σ Q v s' | .ok _ => False | .error e => X.xe e s') s := by
  have hl : us.length = ps.length := r.length.symm.trans (F.len _ _ _ _ h)
  refine codeAny_mono (F.run X.A X.stack s H ⟨us, []⟩ us vs Q (E σ) hr I.env0 (by have := hb s us I.kIn (by simpa using hl); simpa using this) r h) fun r s' hq => ?_
  cases r with
  | error e => exact hx pins H s e s' I hq
  | ok fl =>
    cases fl with
    | ret u => exact I.after hq
    | next => exact False.elim hq
    | brk => exact False.elim hq
    | cont => exact False.elim hq
def tCmS (C : Addr) (sp : Sp) (E : St → XK) (ta : TE) (t : TA) : TE := fun σ H Q => ta σ H fun x H1 => x = .ref C ∧ t σ H1 fun vs H2 => sp (.ref C :: vs) H2 Q (E σ)
theorem pe_cmS {pl : Sem Bool} (c : CmX X.prog X.w X.K X.mg X.base k C mc m sp) (tk : Takes X W) (hr : Room j X.A) (hk : k ≤ j) (he : PE X o ta) (ha : PA X (e :: es) t)
    (hst : starEach (e :: es) X.env = (false, eval e X.env) :: starEach es X.env := by rfl) (hpl : (backTo pos (starEach es X.env)).any (·.1) = false := by rfl)
    (ht : eval (.Call (.Attribute o m apos) (e :: es) [] pos) X.env = (eval o X.env >>= fun ov => standAt apos.atName >>= fun _ => holding [ov] (getMethod ov m pl) >>= fun q => callWith pos q.1 q.2 (backTo pos (starEach (e :: es) X.env)) (backToKw pos (keywordEach [] X.env))) := by rfl) :
    PE X (.Call (.Attribute o m apos) (e :: es) [] pos) (tCmS C sp (WE W) ta t) := by
  obtain ⟨pa, f, fd, ps, rd, cm, F, hb⟩ := c.ex
  refine ⟨fun pins s σ H Q I h => ?_⟩
  refine PySem.W.methodCall_KW (pl := pl) (thn (he.run pins s σ H _ I h) fun u s1 ⟨y, H1, I1, rx, ey, q⟩ => ?_) ht
  subst ey
  obtain rfl : u = Value.ref C := rx
  refine _root_.ClX.getmethcm_ok I1 rd cm fun s2 I2 => ?_
  refine _root_.ClX.callwith_cm I2 (_root_.ClX.base_none I1 (Nat.le_refl _)) cm.fi (thn (ha.run pos _ s2 σ H1 _ I2 q) fun us s3 ⟨vs, H2, I3, rv, q2⟩ => ⟨⟨_root_.ClX.pin_at I3, I3.kIn⟩, ?_⟩) hst hpl
  have z : wpAny (model X.prog X.w) X.A (call (.ref s1.heap.objs.size) us) (EP X ((s1.heap.objs.size, PySem.W.methodObj (.ref f) (.ref C)) :: pins) σ Q) X.xe s3 :=
    wpAny_call (PySem.W.method_call (_root_.ClX.pin_at I3) (run_cE (E := WE W) (us := .ref C :: us) (vs := .ref C :: vs) F (hr.mono hk) hb (passAt tk σ) I3 (.cons rfl rv) q2))
  exact thn z fun _ _ y => _root_.ClX.unpinE y
theorem pe_cm0 {pl : Sem Bool} (c : CmX X.prog X.w X.K X.mg X.base k C mc m sp) (hr : Room j X.A) (hk : k ≤ j) (he : PE X o ta) (ha : PA X (e :: es) t)
    (hst : starEach (e :: es) X.env = (false, eval e X.env) :: starEach es X.env := by rfl) (hpl : (backTo pos (starEach es X.env)).any (·.1) = false := by rfl)
    (ht : eval (.Call (.Attribute o m apos) (e :: es) [] pos) X.env = (eval o X.env >>= fun ov => standAt apos.atName >>= fun _ => holding [ov] (getMethod ov m pl) >>= fun q => callWith pos q.1 q.2 (backTo pos (starEach (e :: es) X.env)) (backToKw pos (keywordEach [] X.env))) := by rfl) :
    PE X (.Call (.Attribute o m apos) (e :: es) [] pos) (tCmS C sp (fun _ => E0) ta t) := by
  obtain ⟨pa, f, fd, ps, rd, cm, F, hb⟩ := c.ex
  refine ⟨fun pins s σ H Q I h => ?_⟩
  refine PySem.W.methodCall_KW (pl := pl) (thn (he.run pins s σ H _ I h) fun u s1 ⟨y, H1, I1, rx, ey, q⟩ => ?_) ht
  subst ey
  obtain rfl : u = Value.ref C := rx
  refine _root_.ClX.getmethcm_ok I1 rd cm fun s2 I2 => ?_
  refine _root_.ClX.callwith_cm I2 (_root_.ClX.base_none I1 (Nat.le_refl _)) cm.fi (thn (ha.run pos _ s2 σ H1 _ I2 q) fun us s3 ⟨vs, H2, I3, rv, q2⟩ => ⟨⟨_root_.ClX.pin_at I3, I3.kIn⟩, ?_⟩) hst hpl
  have z : wpAny (model X.prog X.w) X.A (call (.ref s1.heap.objs.size) us) (EP X ((s1.heap.objs.size, PySem.W.methodObj (.ref f) (.ref C)) :: pins) σ Q) X.xe s3 :=
    wpAny_call (PySem.W.method_call (_root_.ClX.pin_at I3) (run_cE (E := fun _ => E0) (us := .ref C :: us) (vs := .ref C :: vs) F (hr.mono hk) hb (fun pins H s e s' I h => passL pins σ H s e s' I h) I3 (.cons rfl rv) q2))
  exact thn z fun _ _ y => _root_.ClX.unpinE y
/-- c(..), c a local that holds the class -/
def tMakeV (i : Nat) (C : Addr) (sp : Sp) (dvs : List V) (t : TA) : TE := fun σ H Q => σ[i]? = some (some (.ref C)) ∧ tMake C sp dvs E0 t σ H Q
theorem pe_mkV {dvs : List V} (c : NwV X.prog X.w X.K X.mg X.base k C sp dvs) (hr : Room j X.A) (hk : k + 1 ≤ j) (hN : X.N[i]? = some x) (hv : Vis X.env.scope x) (ha : PA X (e :: es) t) (hdb : (x == ("__debug__" : Str)) = false := by decide) (hcd : (x == ("__classdict__" : Str)) = false := by decide)
    (he : starEach (e :: es) X.env = (false, eval e X.env) :: starEach es X.env := by rfl) (hpl : (backTo pos (starEach es X.env)).any (·.1) = false := by rfl) : PE X (.Call (.Name x p) (e :: es) [] pos) (tMakeV i C sp dvs t) := by
  obtain ⟨f, fd, ps, ds, M, F, hb, hd⟩ := c.ex
  refine ⟨fun pins s σ H Q I h => ?_⟩
  obtain ⟨hs, ht⟩ := h
  refine wpAny_Call_Name_kw (thn ((pe_var (pos := p) hN hv hdb hcd).run pins s σ H (fun v H1 => v = .ref C ∧ H1 = H) I ⟨.ref C, hs, rfl, rfl⟩) fun u s1 ⟨v, H1, I1, r1, q1⟩ => ?_)
  obtain ⟨rfl, rfl⟩ := q1
  cases r1
  refine PySem.W.callWith_K (h₀ := X.base) I.ok.mod.kin M.kp (thn (ha.run pos pins s1 σ _ _ I1 ht) fun us s2 ⟨vs, H2, I2, r, q1⟩ => ⟨I2.kIn, ?_⟩) he hpl
  have hq := q1 (s2.heap.objs.size + 1) s2.heap.objs.size (I2.hok.fresh (Nat.le_succ _)) (I2.hok.fresh (Nat.le_refl _)) (Nat.ne_of_lt (Nat.lt_succ_self _))
  have I3 := Inv.made (C := C) I2
  have r2 : Vals (V.ref (s2.heap.objs.size + 1) :: (vs ++ dvs)) (Value.ref (s2.heap.objs.size + 1) :: (us ++ ds)) := .cons rfl (r.append hd)
  have hl : (Value.ref (s2.heap.objs.size + 1) :: us ++ ds).length = ps.length := r2.length.symm.trans (F.len _ _ _ _ hq)
  refine wpAny_call (make_map (f := f) I2.kIn M.makes M.init (beq_iff_eq.mp M.fn) (codeAny_mono (F.run _ X.stack _ _ ⟨Value.ref (s2.heap.objs.size + 1) :: us, []⟩ (Value.ref (s2.heap.objs.size + 1) :: (us ++ ds)) _ _ E0 ((hr.mono hk).make C us [])
    (I3.env0.make C us []) (hb _ (Value.ref (s2.heap.objs.size + 1) :: us) I3.kIn hl) r2 hq) fun r s' hq' => ?_))
  match r, hq' with
  | .error er, hq' => exact hq'.elim
  | .ok .next, hq' => exact hq'.elim
  | .ok .brk, hq' => exact hq'.elim
  | .ok .cont, hq' => exact hq'.elim
  | .ok (.ret u), hq' =>
    obtain ⟨v, H', I4, rv, rfl, q3⟩ := I3.after hq'
    exact ⟨rv, ⟨V.ref (s2.heap.objs.size + 1), H', I4, rfl, q3⟩⟩
end
end L2.G42

set_option Elab.async false
set_option linter.all false
set_option maxRecDepth 100000
set_option maxHeartbeats 4000000
namespace L2.G42
open PySem PySem.Spec
/-- a book in the heap -/
structure BkAt (BK : Addr) (H : Hp) (b D : Addr) (ms : List (List Str × Str)) : Prop where
  ob : ∃ dx, H b = some (.ins BK dx [("marks", .ref D)])
  ma : H D = some (.dT (kmk ms))
theorem BkAt.grow {BK : Addr} {H H' : Hp} {b D : Addr} {ms : List (List Str × Str)} (h : BkAt BK H b D ms) (g : But (fun _ => False) H H') : BkAt BK H' b D ms := let ⟨dx, e⟩ := h.ob; ⟨⟨dx, g _ _ e id⟩, g _ _ h.ma id⟩
/-- what a book may be made of -/
structure MsOk (ms : List (List Str × Str)) : Prop where
  df : DiffBy (·.1) ms
  few : ms.length ≤ 1000
  hd : ∃ q r, ms = q :: r ∧ q.1 = []
/-- Book.read -/
def spRead (K : PySem.W.Frag) (BK B : Addr) : Sp := fun vs H Q E => ∃ (x : V) (d : PyData), vs = [.ref BK, x] ∧ Dp K H x d ∧ ((isStr d = false ∧ ∀ (e : Addr) (H' : Hp), H e = none → H' e = some (.xd [("at", .int (-1))]) → But (fun _ => False) H H' → E (.ref B) (some e) H') ∨
  ∃ z : Str, d = .str z ∧ z.length ≤ 90000 ∧ (∀ p, rdWhole (rdStart z) = .error p → ∀ (e : Addr) (H' : Hp), H e = none → H' e = some (.xd [("at", .int (p : Nat))]) → But (fun _ => False) H H' → E (.ref B) (some e) H') ∧
    ∀ s2, rdWhole (rdStart z) = .ok s2 → ∃ ms, s2.marks = kmk ms ∧ MsOk ms ∧ ∀ (b D : Addr) (H' : Hp), H b = none → H D = none → BkAt BK H' b D (srtBy lexS (·.1) ms) → But (fun _ => False) H H' → Q (.ref b) H')
def spRW (R B : Addr) : Sp := fun vs H Q E => ∃ (r F D : Addr) (s : Rd), vs = [.ref r] ∧ RdAt R H r F D s ∧ s.Ok ∧ RdEnd R B r F D (rdWhole s) H Q E
theorem tw_le (p : Nat → Bool) : ∀ l : List Nat, (l.takeWhile p).length ≤ l.length
  | [] => Nat.le_refl _
  | c :: l => by
    rw [List.takeWhile_cons]
    split
    · exact Nat.succ_le_succ (tw_le p l)
    · exact Nat.zero_le _
theorem toks_le : ∀ (k : Nat) (l : List Nat), l.length ≤ k → ∀ n, ∀ t ∈ toks n l, t.2.length ≤ l.length
  | _, [], _, n, t, ht => by rw [toks] at ht; cases ht
  | 0, c :: r, h, _, _, _ => by simp at h
  | k + 1, c :: r, h, n, t, ht => by
    rw [List.length_cons] at h
    rw [toks] at ht
    split at ht
    · have h1 := tw_le letter r
      have h2 := dw_le letter r
      rcases List.mem_cons.mp ht with e | ht
      · rw [e]
        exact Nat.succ_le_succ h1
      · have := toks_le k _ (by omega) _ t ht
        rw [List.length_cons]
        omega
    · split at ht
      · have := toks_le k r (by omega) _ t ht
        rw [List.length_cons]
        omega
      · rcases List.mem_cons.mp ht with e | ht
        · rw [e]
          simp
        · have := toks_le k r (by omega) _ t ht
          rw [List.length_cons]
          omega
theorem start_ok {z : Str} (h : z.length ≤ 90000) : (rdStart z).Ok := by
  refine ⟨Nat.zero_le _, Nat.zero_le _, Nat.zero_le _, fun t ht => ?_⟩
  have := toks_le _ _ (Nat.le_refl _) 0 t ht
  have e : z.cps.toList.length = z.length := by
    show _ = z.cps.size
    simp
  omega
end L2.G42

set_option Elab.async false
set_option linter.all false
set_option maxRecDepth 100000
set_option maxHeartbeats 4000000
namespace L2.G42
open PySem PySem.Spec PyProof.Rows
/-! dicts with tuple keys, the key any tuple that stands still -/
section
variable {X : Cx} {K : PySem.W.Frag} {o i : Expr} {td ty : TE} {pos : Pos}
theorem key_sq {pins : List (Addr × Obj)} {σ : St} {H : Hp} {s : Shared} {b : Addr} {k : List Key} (I : Inv X pins σ H s) (h : SqT X.K H b (k.map kV)) : (tupleKind (mixKind X.prog X.w)).is s.heap k b := by
  obtain ⟨its, r, pl, _⟩ := I.tuple h
  obtain ⟨o, ho, hc, n, hd⟩ := pl
  exact ⟨o, its.toArray, n, ho, hc, hd, by simpa using items_are r⟩
def tDgT (K : PySem.W.Frag) (td ty : TE) : TE := fun σ H Q => td σ H fun x H1 => ty σ H1 fun y H2 => ∃ a b kvs k v, x = .ref a ∧ y = .ref b ∧ L2.Rd H2 a (.dT kvs) ∧ SqT K H2 b (k.map kV) ∧ valV kvs k = some v ∧ Q v H2
def tDiT (K : PySem.W.Frag) (neg : Bool) (ty td : TE) : TE := fun σ H Q => ty σ H fun y H1 => td σ H1 fun x H2 => ∃ a b kvs k, x = .ref a ∧ y = .ref b ∧ L2.Rd H2 a (.dT kvs) ∧ SqT K H2 b (k.map kV) ∧ Q (.bl (if neg = true then !(valV kvs k).isSome else (valV kvs k).isSome)) H2
theorem pe_dgT (hK : X.K = K) (hu : X.A.units + 1 < cLine) (ho : PE X o td) (hi : PE X i ty) (hs : NoSl i) : PE X (.Subscript o i pos) (tDgT K td ty) := by
  subst hK
  refine ⟨fun pins s σ H Q I h => ?_⟩
  refine subD_of PySem.F.slot_dict_getitem.lookup hs (thn (ho.run pins s σ H _ I h) fun u s1 ⟨x, H1, I1, rx, q1⟩ => thn (hi.run pins s1 σ H1 _ I1 q1) fun iv s2 ⟨y, H2, I2, ry, a, b, kvs, k, v, ex, ey, e, eb, l, q2⟩ => ?_)
  subst ex
  subst ey
  obtain rfl : u = Value.ref a := rx
  obtain rfl : iv = Value.ref b := ry
  obtain ⟨z, hd, xs, rel, dd⟩ := dt_rd I2.hok e
  refine ⟨dd.typeIs, ?_⟩
  obtain ⟨w', hw, rw'⟩ := RelO.some_of (v := v) (o := (atKey xs k).map (·.2)) (by rw [← l]; exact rel.val k)
  obtain ⟨p, hp, hp2⟩ := Option.map_eq_some_iff.mp hw
  refine wpAny_getItem_heap (tupleKind_room_in1 hu) (key_sq I2 eb) dd hp ?_
  rw [hp2]
  exact ⟨v, H2, I2.tok _, rw', q2⟩
theorem pc_dinT (hK : X.K = K) (hu : X.A.units + 1 < cLine) (hi : PE X i ty) (ho : PE X o td) : PC X .In i o (tDiT K false ty td) := by
  subst hK
  refine ⟨fun pins s σ H Q I h => ?_⟩
  refine thn (hi.run pins s σ H _ I h) fun iv s1 ⟨y, H1, I1, ry, q1⟩ => thn (ho.run pins s1 σ H1 _ I1 q1) fun u s2 ⟨x, H2, I2, rx, a, b, kvs, k, ex, ey, e, eb, q2⟩ => ?_
  subst ex
  subst ey
  obtain rfl : u = Value.ref a := rx
  obtain rfl : iv = Value.ref b := ry
  obtain ⟨z, hd, xs, rel, dd⟩ := dt_rd I2.hok e
  refine wpAny_in_heap (tupleKind_room_in1 hu) (key_sq I2 eb) hd dd ?_
  have q := (rel.val k).isSome_eq
  rw [Option.isSome_map] at q
  rw [← q]
  exact ⟨.bl _, H2, I2.tok _, rfl, q2⟩
theorem pc_dninT (hK : X.K = K) (hu : X.A.units + 1 < cLine) (hi : PE X i ty) (ho : PE X o td) : PC X .NotIn i o (tDiT K true ty td) := by
  subst hK
  refine ⟨fun pins s σ H Q I h => ?_⟩
  refine thn (hi.run pins s σ H _ I h) fun iv s1 ⟨y, H1, I1, ry, q1⟩ => thn (ho.run pins s1 σ H1 _ I1 q1) fun u s2 ⟨x, H2, I2, rx, a, b, kvs, k, ex, ey, e, eb, q2⟩ => ?_
  subst ex
  subst ey
  obtain rfl : u = Value.ref a := rx
  obtain rfl : iv = Value.ref b := ry
  obtain ⟨z, hd, xs, rel, dd⟩ := dt_rd I2.hok e
  refine wpAny_notIn_heap (tupleKind_room_in1 hu) (key_sq I2 eb) hd dd ?_
  have q := (rel.val k).isSome_eq
  rw [Option.isSome_map] at q
  rw [← q]
  exact ⟨.bl _, H2, I2.tok _, rfl, q2⟩
end
theorem SqT.but {K : PySem.W.Frag} {S : Addr → Prop} {H H' : Hp} {a : Addr} {xs : List V} (h : SqT K H a xs) (b : But S H H') (n : ¬ S a) : SqT K H' a xs := by
  rcases h with (h | ⟨o, h⟩) | h
  · exact .inl (.inl (b _ _ h n))
  · exact .inl (.inr ⟨o, b _ _ h n⟩)
  · exact .inr h
theorem SqT.grow {K : PySem.W.Frag} {H H' : Hp} {a : Addr} {xs : List V} (h : SqT K H a xs) (b : But (fun _ => False) H H') : SqT K H' a xs := SqT.but h b id
/-- what is a tuple is no dict -/
theorem SqT.butD {K : PySem.W.Frag} {H H' : Hp} {a D : Addr} {xs : List V} {kvs : List (List Key × V)} (h : SqT K H a xs) (hD : H D = some (.dT kvs)) (b : But (· = D) H H') : SqT K H' a xs := by
  rcases h with (h | ⟨o, h⟩) | h
  · exact .inl (.inl (b _ _ h fun e => by rw [e, hD] at h; cases h))
  · exact .inl (.inr ⟨o, b _ _ h fun e => by rw [e, hD] at h; cases h⟩)
  · exact .inr h
theorem rd_frz {H : Hp} {a : Addr} {o : Obj} {u : HO} (h : H a = some (.frz o u)) : L2.Rd H a u := .inr ⟨o, h⟩
end L2.G42

set_option Elab.async false
set_option linter.all false
set_option maxRecDepth 100000
set_option maxHeartbeats 4000000
namespace L2.G42
open PySem PySem.Spec PyProof.Rows
section
variable {X : Cx} {CX : CXT} {n k j : Nat} {C f : Addr} {fd : FuncData} {ps : List Str} {sp : Sp} {E : XK}
theorem op_ninI (F : FnOk X.prog X.w X.K X.mg X.base CX n f fd ps sp) (hs : PySem.W.findIn X.K (.ref C) "__contains__" = some (some (.ref f))) (hf : PySem.W.isFn X.K (.ref f) = true) (hb : Binds X.K fd ps []) (hr : Room n X.A) (hx : Passes CX X E) :
    OpR X (compareOp .NotIn) (rInI C sp E true) := by
  intro pins s σ H x y u v Q I rx ry h
  obtain ⟨a, dx, fs, rfl, ha, hsp⟩ := h
  cases ry
  obtain ⟨mA, J, _⟩ := ins_get I.hok ha
  obtain ⟨od, J, _⟩ := J.look
  obtain ⟨m, hF⟩ := I.fr
  refine PySem.W.notIn_K hF I.ok.mod.kin J hs hf (wpAny_mono (own_call F hb hr hx I (x := .ref a) (y := x) rfl rx hsp) (fun r s' q => ?_) fun _ _ e => e)
  cases r <;> first | exact q.elim | skip
  all_goals obtain ⟨z, H', I', rz, b, rfl, q⟩ := q
  all_goals cases rz
  exact wpAny_truthy_bool ⟨.bl _, H', I', rfl, q⟩
theorem op_ninO (c : Own1 X.prog X.w X.K X.mg X.base k C "__contains__" sp) (hr : Room j X.A) (hk : k ≤ j) : OpR X (compareOp .NotIn) (rInI C sp E0 true) :=
  let ⟨_, _, _, F, h1, h2, h3⟩ := c.ex
  op_ninI F h1 h2 h3 (hr.mono hk) pass0
theorem cr_strO (c : Own1 X.prog X.w X.K X.mg X.base k C "__str__" sp) (hr : Room j X.A) (hk : k + 2 ≤ j) : CallR X (.type "str") (rShowO C sp E0) :=
  let ⟨_, _, _, F, h1, h2, h3⟩ := c.ex
  call_strO F h1 h2 h3 (hr.mono hk) pass0
theorem cr_reprO (c : Own1 X.prog X.w X.K X.mg X.base k C "__repr__" sp) (hr : Room j X.A) (hk : k + 1 ≤ j) : CallR X (.builtin "repr") (rShowO C sp E0) :=
  let ⟨_, _, _, F, h1, h2, h3⟩ := c.ex
  call_reprO F h1 h2 h3 (hr.mono hk) pass0
theorem kFld {K : PySem.W.Frag} {e : Expr} {f : Str} {pos : Pos} {ta : TE} (hK : X.K = K) (he : PE X e ta) (hb : attributeBase e f X.env (eval e X.env) = eval e X.env) : PE X (.Attribute e f pos) (tFld K ta f) := by
  subst hK
  exact pe_fld he hb
/-- an own __getitem__ -/
structure OwnG (P : Program) (w : World) (K : PySem.W.Frag) (mg : Str → Option Value) (base : Heap) (CX : CXT) (k : Nat) (C : Addr) (sp : Sp) : Prop where
  ex : ∃ (f : Addr) (fd : FuncData) (ps : List Str), FnOk P w K mg base CX k f fd ps sp ∧ PySem.W.findIn K (.ref C) "__getitem__" = some (some (.ref f)) ∧ PySem.W.isFn K (.ref f) = true ∧ PySem.W.fnIn K f = true ∧ Binds K fd ps []
theorem pe_get0 {a b : Expr} {pos : Pos} {ta tb : TE} (c : OwnG X.prog X.w X.K X.mg X.base CX0 k C sp) (hr : Room j X.A) (hk : k + 1 ≤ j) (ha : PE X a ta) (hi : PE X b tb) (hsl : ∀ o i, subscripted b true o i = runValue (.builtin "lifetime.subscript" ⟨[o, i], []⟩) := by intro _ _; rfl) :
    PE X (.Subscript a b pos) (tGetO C sp (fun _ => E0) ta tb) :=
  let ⟨_, _, _, F, h1, h2, h3, h4⟩ := c.ex
  pe_getO F h1 h2 h3 h4 (hr.mono hk) (fun _ _ _ _ _ _ _ h => h.elim) ha hi hsl
end
theorem nil_app (x : Str) : Str.ofString "" ++ x = x := by
  apply str_ext
  show ((Str.ofString "").cps ++ x.cps).toList = _
  rw [show (Str.ofString "").cps = #[] by decide +kernel]
  simp
theorem app_nil (x : Str) : x ++ Str.ofString "" = x := by
  apply str_ext
  show (x.cps ++ (Str.ofString "").cps).toList = _
  rw [show (Str.ofString "").cps = #[] by decide +kernel]
  simp
/-- a book in the heap: that of a tree -/
structure BkTr (BK : Addr) (H : Hp) (b D : Addr) (n : Nat) (t : Tr n) : Prop where
  ob : ∃ dx, H b = some (.ins BK dx [("marks", .ref D)])
  ma : MkAt H D n t
  lv : n ≤ 6
theorem BkTr.grow {BK : Addr} {H H' : Hp} {b D : Addr} {n : Nat} {t : Tr n} (h : BkTr BK H b D n t) (g : But (fun _ => False) H H') : BkTr BK H' b D n t := let ⟨dx, e⟩ := h.ob; ⟨⟨dx, g _ _ e id⟩, h.ma.grow g, h.lv⟩
/-- is_row_of_keys -/
def isRowD : PyData → Bool
  | .tuple ds => ds.all isStr
  | _ => false
def spIsRow (K : PySem.W.Frag) : Sp := fun vs H Q _ => ∃ (x : V) (d : PyData), vs = [x] ∧ Dp K H x d ∧ (∀ ds, d = .tuple ds → ds.length ≤ 1000) ∧ ∀ H' : Hp, But (fun _ => False) H H' → Q (.bl (isRowD d)) H'
/-- __str__, __repr__ -/
def spBStr (BK : Addr) (pre post : Str) : Sp := fun vs H Q _ => ∃ (b D : Addr) (n : Nat) (t : Tr n), vs = [.ref b] ∧ BkTr BK H b D n t ∧ ∀ H' : Hp, But (fun _ => False) H H' → Q (.str (pre ++ Tr.text n t ++ post)) H'
/-- __len__ -/
def spBLen (BK : Addr) : Sp := fun vs H Q _ => ∃ (b D : Addr) (n : Nat) (t : Tr n), vs = [.ref b] ∧ BkTr BK H b D n t ∧ ∀ H' : Hp, But (fun _ => False) H H' → Q (.int (((Tr.rows n [] t).filter fun r => kinds.contains (Tr.mark r.k r.t)).length : Nat)) H'
/-- whether p is a place of the tree -/
def hasPl (n : Nat) (t : Tr n) (p : List Str) : Bool := (Tr.rows n [] t).any fun r => decide (r.pl = p)
theorem hasPl_val {n : Nat} {t : Tr n} (ho : Tr.Ok n t) (p : List Str) : (valV (kmk (Tr.marks n [] t)) (kp p)).isSome = hasPl n t p := by
  cases e : hasPl n t p with
  | true =>
    obtain ⟨r, hr, h⟩ := List.any_eq_true.mp e
    rw [← of_decide_eq_true h, val_row ho hr]
    rfl
  | false =>
    rw [val_not fun q hq h => ?_]
    · rfl
    · rw [Tr.marks_rows] at hq
      obtain ⟨r, hr, rfl⟩ := List.mem_map.mp hq
      have := List.any_eq_false.mp e r hr
      exact this (decide_eq_true (kp_inj h))
theorem hasPl_row {n : Nat} {t : Tr n} {r : Row} (hr : r ∈ Tr.rows n [] t) : hasPl n t r.pl = true := List.any_eq_true.mpr ⟨r, hr, decide_eq_true rfl⟩
/-- __contains__ of a tuple of texts -/
def spBHas (K : PySem.W.Frag) (BK : Addr) : Sp := fun vs H Q _ => ∃ (b D c : Addr) (n : Nat) (t : Tr n) (p : List Str), vs = [.ref b, .ref c] ∧ BkTr BK H b D n t ∧ SqT K H c (p.map V.str) ∧ p.length ≤ 1000 ∧ ∀ H' : Hp, But (fun _ => False) H H' → Q (.bl (hasPl n t p)) H'
/-- [ ] at a place -/
def spBGet (K : PySem.W.Frag) (BK : Addr) : Sp := fun vs H Q _ => ∃ (b D c : Addr) (n : Nat) (t : Tr n) (r : Row), vs = [.ref b, .ref c] ∧ BkTr BK H b D n t ∧ SqT K H c (r.pl.map V.str) ∧ r ∈ Tr.rows n [] t ∧ ∀ H' : Hp, But (fun _ => False) H H' → Q (.str (Tr.mark r.k r.t)) H'
def spBUnder (K : PySem.W.Frag) (BK : Addr) : Sp := fun vs H Q _ => ∃ (b D c : Addr) (n : Nat) (t : Tr n) (r : Row), vs = [.ref b, .ref c] ∧ BkTr BK H b D n t ∧ SqT K H c (r.pl.map V.str) ∧ r ∈ Tr.rows n [] t ∧
  ∀ (q : Addr) (H' : Hp), H q = none → H' q = some (.tup ((Tr.keys r.k r.t).map V.str)) → But (fun _ => False) H H' → Q (.ref q) H'
def spBForm (K : PySem.W.Frag) (BK : Addr) : Sp := fun vs H Q _ => ∃ (b D c : Addr) (n : Nat) (t : Tr n) (r : Row), vs = [.ref b, .ref c] ∧ BkTr BK H b D n t ∧ SqT K H c (r.pl.map V.str) ∧ r ∈ Tr.rows n [] t ∧ ∀ H' : Hp, But (fun _ => False) H H' → Q (.str (Tr.form r.k r.t)) H'
theorem row_len {H : Hp} {D : Addr} {n : Nat} {t : Tr n} (h : MkAt H D n t) {r : Row} (hr : r ∈ Tr.rows n [] t) : r.pl.length ≤ 10 := by
  have := Tr.rows_lev n t [] r hr
  have := h.lv
  simp at *
  omega
end L2.G42

set_option Elab.async false
set_option linter.all false
set_option maxRecDepth 100000
set_option maxHeartbeats 4000000
namespace L2.G42
open PySem PySem.Spec PyProof.Rows
/-! list(text) -/
theorem vals_signs (l : List Nat) : ∀ (us : List Value), us.length = l.length → (∀ (j : Nat) (v : Value), us[j]? = some v → ∃ (c : Nat) (t : Tok), l[j]? = some c ∧ v = Value.str ⟨#[c]⟩ t) → Vals (l.map fun c => V.str (tx [c])) us := by
  induction l with
  | nil =>
    intro us hl _
    cases us with
    | nil => exact .nil
    | cons a b => cases hl
  | cons c l ih =>
    intro us hl h
    cases us with
    | nil => cases hl
    | cons u us =>
      obtain ⟨c', t, e1, e2⟩ := h 0 u rfl
      injection e1 with e1
      subst e1
      refine .cons ⟨t, e2⟩ (ih us (by simpa using hl) fun j v hv => ?_)
      obtain ⟨c', t, e1, e2⟩ := h (j + 1) v (by simpa using hv)
      exact ⟨c', t, by simpa using e1, e2⟩
section
variable {X : Cx}
theorem cr_listS (hc : X.calm = true) : CallR X (.type "list") (fun xs H Q => ∃ z : Str, xs = [.str z] ∧ z.cps.size ≤ 1000 ∧ ∀ l, H l = none → Q (.ref l) (upd H l (.lst (z.cps.toList.map fun c => V.str (tx [c]))))) := by
  intro pins s σ H xs us Q I r h
  obtain ⟨z, rfl, hz, q⟩ := h
  obtain ⟨u, rfl, rx⟩ := vals1 r
  obtain ⟨t, rfl⟩ := rx
  refine PySem.call_list_str (I.ok.hd hc) z t (fun h' tk acc' c' kp e it => ?_) (szle (by omega))
  have rv : Vals (z.cps.toList.map fun c => V.str (tx [c])) acc'.toList := by
    refine vals_signs _ _ ?_ fun j v hv => ?_
    · rw [Array.length_toList, Array.length_toList]
      exact it.1
    · obtain ⟨c, tk, h1, h2⟩ := it.2 j v (by rw [← Array.getElem?_toList]; exact hv)
      exact ⟨c, tk, by rw [Array.getElem?_toList]; exact h1, h2⟩
  refine ⟨.ref s.heap.objs.size, _, I.laid (t' := tk) kp (Nat.le_refl _) (show ObjOk X.prog X.w _ h' _ (.lst (z.cps.toList.map fun c => V.str (tx [c]))) from ⟨szle (by rw [List.length_map, Array.length_toList]; omega), acc'.toList, c', rv, by rw [Array.toArray_toList]; exact e⟩), rfl, q _ (I.hok.fresh (Nat.le_refl _))⟩
end
end L2.G42

set_option Elab.async false
set_option linter.all false
set_option maxRecDepth 100000
set_option maxHeartbeats 4000000
namespace L2.G42
open PySem PySem.Spec
/-! drawn words: they differ at one place of a stem -/
def Lets (l : List Nat) : Prop := ∀ c ∈ l, letter c = true
theorem Lets.app {a b : List Nat} (h : Lets a) (h2 : Lets b) : Lets (a ++ b) := fun c hc => (List.mem_append.mp hc).elim (h c) (h2 c)
theorem Lets.take {a : List Nat} (h : Lets a) (k : Nat) : Lets (a.take k) := fun c hc => h c (List.mem_of_mem_take hc)
theorem Lets.drop {a : List Nat} (h : Lets a) (k : Nat) : Lets (a.drop k) := fun c hc => h c (List.mem_of_mem_drop hc)
theorem tx_inj {a b : List Nat} (h : tx a = tx b) : a = b := by
  injection h with h
  exact List.toArray_inj h
theorem tx_cps (a : List Nat) : (tx a).cps.toList = a := by simp
theorem tx_len (a : List Nat) : (tx a).length = a.length := by
  show a.toArray.size = _
  simp
theorem tx_app (a b : List Nat) : tx a ++ tx b = tx (a ++ b) := by
  apply str_ext
  show (a.toArray ++ b.toArray).toList = _
  simp
theorem key_tx {l : List Nat} (h1 : l ≠ []) (h2 : l.length ≤ 8) (h3 : Lets l) (h4 : reserved.contains (tx l) = false) : isKey (tx l) = true := by
  unfold isKey
  rw [h4, tx_len, tx_cps]
  have : 1 ≤ l.length := List.length_pos_iff.mpr h1
  simp [this, h2]
  exact h3
/-- no reserved word ends with q -/
theorem res_q (l : List Nat) : reserved.contains (tx (l ++ [113])) = false := by
  cases e : reserved.contains (tx (l ++ [113])) with
  | false => rfl
  | true =>
    have hm := List.contains_iff_mem.mp e
    have all : ∀ x ∈ reserved, x.cps.toList.getLast? ≠ some 113 := by decide +kernel
    have := all _ hm
    rw [tx_cps] at this
    simp at this
theorem res_len {x : Str} (h : reserved.contains x = true) : x.length ≤ 6 := by
  have all : ∀ x ∈ reserved, x.length ≤ 6 := by decide +kernel
  exact all x (List.contains_iff_mem.mp h)
/-- a drawn word: the stem up to at, a letter, some of the stem; or the stem up to at alone -/
def wordOf (stem : List Nat) (at_ : Nat) (c : Nat) (k : Nat) : List Nat := let w := stem.take at_ ++ [c] ++ (stem.drop at_).take k
  if reserved.contains (tx w) = true then w ++ [113] else w
structure Drawn (stem : List Nat) (at_ : Nat) (left : List Nat) (ws : List Str) : Prop where
  key : ∀ w ∈ ws, isKey w = true
  nd : ws.Nodup
  /-- each word is the stem up to at, or has a letter there that is no longer left -/
  sep : ∀ w ∈ ws, w = tx (stem.take at_) ∨ ∃ c r, w = tx (stem.take at_ ++ [c] ++ r) ∧ c ∉ left
theorem word_key {stem : List Nat} {at_ c k : Nat} (hs : Lets stem) (h7 : stem.length ≤ 7) (hc : letter c = true) : isKey (tx (wordOf stem at_ c k)) = true := by
  unfold wordOf
  simp only
  have lw : Lets (stem.take at_ ++ [c] ++ (stem.drop at_).take k) := ((hs.take at_).app (fun x hx => by rw [List.mem_singleton.mp hx]; exact hc)).app ((hs.drop at_).take k)
  have ll : (stem.take at_ ++ [c] ++ (stem.drop at_).take k).length ≤ 8 := by
    rw [List.length_append, List.length_append, List.length_take, List.length_take, List.length_drop]
    simp
    omega
  split
  · rename_i h
    have h6 := res_len h
    rw [tx_len] at h6
    refine key_tx (by simp) ?_ (lw.app fun x hx => by rw [List.mem_singleton.mp hx]; decide) (res_q _)
    rw [List.length_append]
    simp
    simp at h6
    omega
  · rename_i h
    exact key_tx (by simp) ll lw (by simpa using h)
theorem word_shape (stem : List Nat) (at_ c k : Nat) : ∃ r, wordOf stem at_ c k = stem.take at_ ++ [c] ++ r := by
  unfold wordOf
  simp only
  split
  · exact ⟨(stem.drop at_).take k ++ [113], by simp⟩
  · exact ⟨_, rfl⟩
theorem Drawn.nil (stem : List Nat) (at_ : Nat) (left : List Nat) : Drawn stem at_ left [] := ⟨by simp, List.nodup_nil, by simp⟩
theorem Drawn.first {stem : List Nat} {at_ : Nat} {left : List Nat} (hs : Lets stem) (h7 : stem.length ≤ 7) (h0 : 0 < at_) (h1 : at_ ≤ stem.length) (hr : reserved.contains (tx (stem.take at_)) = false) : Drawn stem at_ left [tx (stem.take at_)] := by
  refine ⟨fun w hw => ?_, by simp, fun w hw => .inl (List.mem_singleton.mp hw)⟩
  rw [List.mem_singleton.mp hw]
  refine key_tx (fun e => ?_) (by rw [List.length_take]; omega) (hs.take at_) hr
  have := congrArg List.length e
  rw [List.length_take, List.length_nil] at this
  omega
theorem Drawn.add {stem : List Nat} {at_ : Nat} {left : List Nat} {ws : List Str} (D : Drawn stem at_ left ws) (hs : Lets stem) (h7 : stem.length ≤ 7) {i c k : Nat} (hi : left[i]? = some c) (hn : left.Nodup) (hl : Lets left) : Drawn stem at_ (left.eraseIdx i) (ws ++ [tx (wordOf stem at_ c k)]) := by
  have hc : c ∈ left := List.mem_of_getElem? hi
  obtain ⟨r, er⟩ := word_shape stem at_ c k
  have hne : c ∉ left.eraseIdx i := by
    intro h
    have hlt : i < left.length := by
      rcases Nat.lt_or_ge i left.length with q | q
      · exact q
      · rw [List.getElem?_eq_none q] at hi; cases hi
    have e : left = left.take i ++ c :: left.drop (i + 1) := by
      have := List.take_append_drop i left
      rw [List.drop_eq_getElem_cons hlt] at this
      rw [List.getElem?_eq_getElem hlt] at hi
      injection hi with hi
      rw [hi] at this
      exact this.symm
    rw [List.eraseIdx_eq_take_drop_succ] at h
    rw [e] at hn
    have hn' := List.nodup_append.mp hn
    rcases List.mem_append.mp h with q | q
    · exact hn'.2.2 c q c List.mem_cons_self rfl
    · exact (List.nodup_cons.mp hn'.2.1).1 q
  refine ⟨fun w hw => ?_, ?_, fun w hw => ?_⟩
  · rcases List.mem_append.mp hw with h | h
    · exact D.key w h
    · rw [List.mem_singleton.mp h]
      exact word_key hs h7 (hl c hc)
  · rw [List.nodup_append]
    refine ⟨D.nd, by simp, fun a ha b hb e => ?_⟩
    rw [List.mem_singleton.mp hb] at e
    rcases D.sep a ha with h | ⟨c', r', h, hc'⟩
    · rw [h, er] at e
      have := congrArg List.length (tx_inj e)
      simp at this
    · rw [h, er] at e
      have e2 := tx_inj e
      rw [List.append_assoc, List.append_assoc] at e2
      have e3 := List.append_cancel_left e2
      injection e3 with e4 _
      subst e4
      exact hc' hc
  · rcases List.mem_append.mp hw with h | h
    · rcases D.sep w h with h | ⟨c', r', h, hc'⟩
      · exact .inl h
      · exact .inr ⟨c', r', h, fun q => hc' (List.mem_of_mem_eraseIdx q)⟩
    · rw [List.mem_singleton.mp h, er]
      exact .inr ⟨c, r, rfl, hne⟩
/-- the drawn words -/
def spWords : Sp := fun vs H Q _ => ∃ (a : Addr) (many : Nat), vs = [.ref a, .int many] ∧ 1 ≤ many ∧ many ≤ 20 ∧ SrcAt H a ∧
  ∀ (p : Addr) (ws : List Str) (H' : Hp), H p = none → H' p = some (.lst (ws.map V.str)) → ws.length = many → ws.Nodup → (∀ w ∈ ws, isKey w = true) → SrcAt H' a → But (· = a) H H' → Q (.ref p) H'
end L2.G42
namespace L2.G42
open PySem PySem.Spec
/-- the heap while words are drawn -/
structure WdSt (H H' : Hp) (a rl L Fa : Addr) (left : List Nat) (ws : List Str) : Prop where
  src : SrcAt H' a
  res : H' rl = some (.lst (reserved.map V.str))
  lf : H' L = some (.lst (left.map fun c => V.str (tx [c])))
  fd : H' Fa = some (.lst (ws.map V.str))
  nL : H L = none
  nF : H Fa = none
  nR : H rl = none
  n1 : L ≠ Fa
  n2 : L ≠ rl
  n3 : Fa ≠ rl
  hs : SrcAt H a
  g : But (· = a) H H'
section
variable {H H' : Hp} {a rl L Fa : Addr} {left : List Nat} {ws : List Str}
theorem src_some {H : Hp} {a b : Addr} (h : SrcAt H a) (hb : H b = none) : b ≠ a := fun e => by
  obtain ⟨c, st, n, q⟩ := h
  rw [e, q] at hb
  cases hb
theorem WdSt.draw (W : WdSt H H' a rl L Fa left ws) (c st n : Int) : WdSt H (upd H' a (L2.G42.src c st n)) a rl L Fa left ws :=
  ⟨⟨c, st, n, upd_same⟩, by rw [upd_ne (src_some W.hs W.nR)]; exact W.res, by rw [upd_ne (src_some W.hs W.nL)]; exact W.lf, by rw [upd_ne (src_some W.hs W.nF)]; exact W.fd, W.nL, W.nF, W.nR, W.n1, W.n2, W.n3, W.hs, W.g.trans (But.at rfl)⟩
theorem WdSt.pop (W : WdSt H H' a rl L Fa left ws) (i : Nat) : WdSt H (upd H' L (.lst ((left.map fun c => V.str (tx [c])).eraseIdx i))) a rl L Fa (left.eraseIdx i) ws := by
  refine ⟨?_, by rw [upd_ne W.n2.symm]; exact W.res, ?_, by rw [upd_ne W.n1.symm]; exact W.fd, W.nL, W.nF, W.nR, W.n1, W.n2, W.n3, W.hs, W.g.fresh W.nL⟩
  · obtain ⟨c, st, n, q⟩ := W.src
    exact ⟨c, st, n, by rw [upd_ne (src_some W.hs W.nL).symm]; exact q⟩
  · rw [upd_same, List.eraseIdx_eq_take_drop_succ, List.eraseIdx_eq_take_drop_succ, List.map_append, List.map_take, List.map_drop]
theorem WdSt.push (W : WdSt H H' a rl L Fa left ws) (x : Str) : WdSt H (upd H' Fa (.lst (ws.map V.str ++ [V.str x]))) a rl L Fa left (ws ++ [x]) := by
  refine ⟨?_, by rw [upd_ne W.n3.symm]; exact W.res, by rw [upd_ne W.n1]; exact W.lf, ?_, W.nL, W.nF, W.nR, W.n1, W.n2, W.n3, W.hs, W.g.fresh W.nF⟩
  · obtain ⟨c, st, n, q⟩ := W.src
    exact ⟨c, st, n, by rw [upd_ne (src_some W.hs W.nF).symm]; exact q⟩
  · rw [upd_same, List.map_append]
    rfl
end
theorem letters_nodup : lettersS.cps.toList.Nodup := by
  rw [letters_are]
  decide +kernel
theorem letters_lets : Lets lettersS.cps.toList := fun c hc => by
  rw [← letters_mem]
  exact decide_eq_true hc
theorem letters_len : lettersS.cps.toList.length = 26 := by decide +kernel
theorem cut_pre (l : List Nat) (k : Nat) : cutS (tx l) none (some (k : Int)) = tx (l.take k) := by
  unfold cutS HT.sIx
  rw [tx_len, tx_cps]
  simp only [if_neg (show ¬ ((k : Int) < 0) by omega), Int.toNat_natCast]
  congr 2
  rw [List.drop_zero, Nat.sub_zero]
  rcases Nat.lt_or_ge k l.length with h | h
  · rw [Nat.min_eq_left (by omega)]
  · rw [Nat.min_eq_right h, List.take_of_length_le (by omega), List.take_of_length_le h]
theorem cut_seg (l : List Nat) (k e : Nat) : cutS (tx l) (some (k : Int)) (some ((k : Int) + (e : Int))) = tx ((l.drop k).take e) := by
  have : (k : Int) + (e : Int) = ((k + e : Nat) : Int) := by omega
  rw [this]
  unfold cutS HT.sIx
  rw [tx_len, tx_cps]
  simp only [if_neg (show ¬ ((k : Int) < 0) by omega), if_neg (show ¬ (((k + e : Nat) : Int) < 0) by omega), Int.toNat_natCast]
  congr 2
  rcases Nat.lt_or_ge k l.length with h | h
  · rw [Nat.min_eq_left (by omega : k ≤ l.length)]
    rcases Nat.lt_or_ge (k + e) l.length with h2 | h2
    · rw [Nat.min_eq_left (by omega)]
      congr 1
      omega
    · rw [Nat.min_eq_right h2, List.take_of_length_le (by rw [List.length_drop]; omega), List.take_of_length_le (by rw [List.length_drop]; omega)]
  · rw [Nat.min_eq_right h, List.drop_eq_nil_of_le (Nat.le_refl _), List.drop_eq_nil_of_le h]
    simp
end L2.G42

set_option Elab.async false
set_option linter.all false
set_option maxRecDepth 100000
set_option maxHeartbeats 4000000
namespace L2.G42
open PySem PySem.Spec
/-- two parts of the heap together -/
def both (G G2 : Hp) : Hp := fun x => match G x with
  | some o => some o
  | none => G2 x
theorem both_left {G G2 : Hp} : Part G (both G G2) := fun x o h => by
  unfold both
  rw [h]
theorem both_right {G G2 H1 : Hp} (p : Part G H1) (f : ∀ x, H1 x ≠ none → G2 x = none) : Part G2 (both G G2) := fun x o h => by
  unfold both
  have : G x = none := by
    cases e : G x with
    | none => rfl
    | some u => rw [f x (by rw [p x u e]; simp)] at h; cases h
  rw [this]
  exact h
theorem both_part {G G2 H2 : Hp} (p : Part G H2) (q : Part G2 H2) : Part (both G G2) H2 := fun x o h => by
  unfold both at h
  cases e : G x with
  | none => rw [e] at h; exact q x o h
  | some u =>
    rw [e] at h
    have : u = o := by injection h
    rw [← this]
    exact p x u e
theorem both_none {G G2 : Hp} {x : Addr} (h : G x = none) (h2 : G2 x = none) : both G G2 x = none := by
  unfold both
  rw [h]
  exact h2
def ent (n : Nat) (e : Str × Tr n) : PyData := .list [.str e.1, Tr.dat n e.2]
/-- the heap while a table is drawn -/
structure TbSt (K : PySem.W.Frag) (n : Nat) (H H1 : Hp) (a wl lf KL EL : Addr) (ws ks : List Str) (es : List (Str × Tr n)) (t1 b1 : Nat) (vs : List V) (G : Hp) : Prop where
  src : SrcAt H1 a
  ewl : H1 wl = some (.lst (ws.map V.str))
  elf : H1 lf = some (.lst [.int (t1 : Nat), .int (b1 : Nat)])
  kl : H1 KL = some (.lst (ks.map V.str))
  el : H1 EL = some (.lst vs)
  dp : DpAll K G vs (es.map (ent n))
  part : Part G H1
  fr : ∀ x, H x ≠ none → G x = none
  gK : G KL = none
  gE : G EL = none
  nK : H KL = none
  nE : H EL = none
  ne : KL ≠ EL
  ha : SrcAt H a
  hw : H wl ≠ none
  hl : H lf ≠ none
  n1 : a ≠ wl
  n2 : a ≠ lf
  n3 : wl ≠ lf
  g : But (fun x => x = a ∨ x = lf) H H1
section
variable {K : PySem.W.Frag} {n : Nat} {H H1 : Hp} {a wl lf KL EL : Addr} {ws ks : List Str} {es : List (Str × Tr n)} {t1 b1 : Nat} {vs : List V} {G : Hp}
theorem ne_none {H : Hp} {x y : Addr} (h : H x ≠ none) (h2 : H y = none) : x ≠ y := fun e => h (e ▸ h2)
theorem src_ne' {H : Hp} {a : Addr} (h : SrcAt H a) : H a ≠ none := by
  obtain ⟨c, st, n, e⟩ := h
  rw [e]
  simp
theorem SrcAt.upd {H : Hp} {a p : Addr} {o : HO} (h : SrcAt H a) (ne : a ≠ p) : SrcAt (L2.upd H p o) a := let ⟨c, st, n, e⟩ := h; ⟨c, st, n, by rw [upd_ne ne]; exact e⟩
theorem TbSt.draw (T : TbSt K n H H1 a wl lf KL EL ws ks es t1 b1 vs G) (c st m : Int) : TbSt K n H (upd H1 a (L2.G42.src c st m)) a wl lf KL EL ws ks es t1 b1 vs G := by
  have aK := ne_none (src_ne' T.ha) T.nK
  have aE := ne_none (src_ne' T.ha) T.nE
  exact ⟨⟨c, st, m, upd_same⟩, by rw [upd_ne T.n1.symm]; exact T.ewl, by rw [upd_ne T.n2.symm]; exact T.elf, by rw [upd_ne aK.symm]; exact T.kl, by rw [upd_ne aE.symm]; exact T.el, T.dp, T.part.upd (T.fr a (src_ne' T.ha)), T.fr, T.gK, T.gE, T.nK, T.nE, T.ne, T.ha, T.hw, T.hl, T.n1, T.n2, T.n3, T.g.trans (But.at (.inl rfl))⟩
theorem TbSt.left (T : TbSt K n H H1 a wl lf KL EL ws ks es t1 b1 vs G) (t2 b2 : Nat) : TbSt K n H (upd H1 lf (.lst [.int (t2 : Nat), .int (b2 : Nat)])) a wl lf KL EL ws ks es t2 b2 vs G := by
  have lK := ne_none T.hl T.nK
  have lE := ne_none T.hl T.nE
  exact ⟨T.src.upd T.n2, by rw [upd_ne T.n3]; exact T.ewl, upd_same, by rw [upd_ne lK.symm]; exact T.kl, by rw [upd_ne lE.symm]; exact T.el, T.dp, T.part.upd (T.fr lf T.hl), T.fr, T.gK, T.gE, T.nK, T.nE, T.ne, T.ha, T.hw, T.hl, T.n1, T.n2, T.n3, T.g.trans (But.at (.inr rfl))⟩
theorem TbSt.pop (T : TbSt K n H H1 a wl lf KL EL ws ks es t1 b1 vs G) (i : Nat) : TbSt K n H (upd H1 KL (.lst ((ks.map V.str).eraseIdx i))) a wl lf KL EL ws (ks.eraseIdx i) es t1 b1 vs G := by
  have aK := ne_none (src_ne' T.ha) T.nK
  have lK := ne_none T.hl T.nK
  have wK := ne_none T.hw T.nK
  refine ⟨T.src.upd aK, by rw [upd_ne wK]; exact T.ewl, by rw [upd_ne lK]; exact T.elf, ?_, by rw [upd_ne T.ne.symm]; exact T.el, T.dp, T.part.upd T.gK, T.fr, T.gK, T.gE, T.nK, T.nE, T.ne, T.ha, T.hw, T.hl, T.n1, T.n2, T.n3, T.g.fresh T.nK⟩
  rw [upd_same, List.eraseIdx_eq_take_drop_succ, List.eraseIdx_eq_take_drop_succ, List.map_append, List.map_take, List.map_drop]
/-- [key, item] is put behind; the item within G2, which is new -/
theorem TbSt.push {H2 G2 : Hp} {key : Str} {t : Tr n} {v : V} {p : Addr} {t2 b2 : Nat} (T : TbSt K n H H1 a wl lf KL EL ws ks es t1 b1 vs G) (b : But (fun x => x = a ∨ x = lf) H1 H2) (s2 : SrcAt H2 a) (l2 : H2 lf = some (.lst [.int (t2 : Nat), .int (b2 : Nat)]))
    (p2 : Part G2 H2) (f2 : ∀ x, H1 x ≠ none → G2 x = none) (d2 : Dp K G2 v (Tr.dat n t)) (hp : H2 p = none) :
    TbSt K n H (upd (upd H2 p (.lst [.str key, v])) EL (.lst (vs ++ [.ref p]))) a wl lf KL EL ws ks (es ++ [(key, t)]) t2 b2 (vs ++ [.ref p]) (upd (both G G2) p (.lst [.str key, v])) := by
  have aK := ne_none (src_ne' T.ha) T.nK
  have aE := ne_none (src_ne' T.ha) T.nE
  have lK := ne_none T.hl T.nK
  have lE := ne_none T.hl T.nE
  have wK := ne_none T.hw T.nK
  have wE := ne_none T.hw T.nE
  have kl2 : H2 KL = some (.lst (ks.map V.str)) := b _ _ T.kl fun e => e.elim (fun e => aK e.symm) (fun e => lK e.symm)
  have el2 : H2 EL = some (.lst vs) := b _ _ T.el fun e => e.elim (fun e => aE e.symm) (fun e => lE e.symm)
  have wl2 : H2 wl = some (.lst (ws.map V.str)) := b _ _ T.ewl fun e => e.elim (fun e => T.n1 e.symm) (fun e => T.n3 e)
  have pK := ne_of_none kl2 hp
  have pE := ne_of_none el2 hp
  have pW := ne_of_none wl2 hp
  have pL := ne_of_none l2 hp
  have pA : a ≠ p := ne_none (src_ne' s2) hp
  have gp1 : G p = none := by
    cases e : G p with
    | none => rfl
    | some o =>
      have := T.part p o e
      have h3 := b p o this fun q => q.elim (fun q => pA q.symm) (fun q => pL q.symm)
      rw [h3] at hp
      cases hp
  have gp2 : G2 p = none := p2.free hp
  have gg : both G G2 p = none := both_none gp1 gp2
  have part2 : Part (both G G2) H2 := both_part (T.part.but b fun x hx => hx.elim (fun e => e ▸ T.fr a (src_ne' T.ha)) (fun e => e ▸ T.fr lf T.hl)) p2
  have hp1 : H p = none := by
    cases e : H p with
    | none => rfl
    | some o =>
      have := b p _ (T.g p o e fun q => q.elim (fun q => pA q.symm) (fun q => pL q.symm)) fun q => q.elim (fun q => pA q.symm) (fun q => pL q.symm)
      rw [this] at hp
      cases hp
  have gE2 : G2 EL = none := f2 EL (by rw [T.el]; simp)
  have gK2 : G2 KL = none := f2 KL (by rw [T.kl]; simp)
  refine ⟨(s2.upd pA).upd aE, ?_, ?_, ?_, upd_same, ?_, ?_, fun x hx => ?_, ?_, ?_, T.nK, T.nE, T.ne, T.ha, T.hw, T.hl, T.n1, T.n2, T.n3, ?_⟩
  · rw [upd_ne wE, upd_ne pW]; exact wl2
  · rw [upd_ne lE, upd_ne pL]; exact l2
  · rw [upd_ne T.ne, upd_ne pK]; exact kl2
  · rw [List.map_append]
    refine DpAll.append (DpAll.part (both_left.trans (Part.refl.upd gg)) _ _ T.dp) (.cons ?_ .nil)
    refine .lst (SqL.of upd_same) (.cons (.str key) (.cons ?_ .nil))
    exact Dp.part ((both_right T.part f2).trans (Part.refl.upd gg)) _ _ d2
  · refine (part2.both).upd ?_
    rw [upd_ne pE]
    exact both_none T.gE gE2
  · have : x ≠ p := ne_none hx hp1
    rw [upd_ne this]
    refine both_none (T.fr x hx) (f2 x ?_)
    by_cases e1 : x = a
    · rw [e1]; exact src_ne' T.src
    · by_cases e2 : x = lf
      · rw [e2, T.elf]; simp
      · cases q : H x with
        | none => exact absurd q hx
        | some o => rw [T.g x o q fun z => z.elim e1 e2]; simp
  · rw [upd_ne pK]; exact both_none T.gK gK2
  · rw [upd_ne pE]; exact both_none T.gE gE2
  · refine But.fresh ?_ T.nE
    exact But.fresh (T.g.trans b) hp1
end
/-- the keys of a table that is drawn, and those left -/
structure KsSt (n : Nat) (ks : List Str) (es : List (Str × Tr n)) : Prop where
  nd : (es.map (·.1) ++ ks).Nodup
  key : ∀ k ∈ ks, isKey k = true
  ok : ∀ e ∈ es, isKey e.1 = true ∧ Tr.Ok n e.2 ∧ Tr.Few n e.2
theorem KsSt.step {n : Nat} {ks : List Str} {es : List (Str × Tr n)} (S : KsSt n ks es) {i : Nat} {key : Str} (hi : ks[i]? = some key) {t : Tr n} (ho : Tr.Ok n t) (hf : Tr.Few n t) : KsSt n (ks.eraseIdx i) (es ++ [(key, t)]) := by
  have hlt : i < ks.length := by
    rcases Nat.lt_or_ge i ks.length with q | q
    · exact q
    · rw [List.getElem?_eq_none q] at hi; cases hi
  have hk : key ∈ ks := List.mem_of_getElem? hi
  have e : ks = ks.take i ++ key :: ks.drop (i + 1) := by
    have := List.take_append_drop i ks
    rw [List.drop_eq_getElem_cons hlt] at this
    rw [List.getElem?_eq_getElem hlt] at hi
    injection hi with hi
    rw [hi] at this
    exact this.symm
  refine ⟨?_, fun k h => S.key k (List.mem_of_mem_eraseIdx h), fun x hx => ?_⟩
  · have nd := S.nd
    have p : ((es ++ [(key, t)]).map (·.1) ++ ks.eraseIdx i).Perm (es.map (·.1) ++ ks) := by
      rw [List.map_append, List.append_assoc, List.eraseIdx_eq_take_drop_succ]
      refine List.Perm.append_left _ ?_
      have q : (key :: (ks.take i ++ ks.drop (i + 1))).Perm (ks.take i ++ key :: ks.drop (i + 1)) := List.perm_middle.symm
      rw [← e] at q
      exact q
    exact p.nodup_iff.mpr nd
  · rcases List.mem_append.mp hx with h | h
    · exact S.ok x h
    · rw [List.mem_singleton.mp h]
      exact ⟨S.key key hk, ho, hf⟩
/-- a table is drawn: n levels of tables at most, it included -/
def spTab (K : PySem.W.Frag) (n : Nat) : Sp := fun vs H Q _ => ∃ (a wl lf : Addr) (ws : List Str) (lv tb bb : Nat), vs = [.ref a, .ref wl, .ref lf, .int (lv : Nat)] ∧ lv + n = 5 ∧ SrcAt H a ∧ H wl = some (.lst (ws.map V.str)) ∧ H lf = some (.lst [.int (tb : Nat), .int (bb : Nat)]) ∧ a ≠ wl ∧ a ≠ lf ∧ wl ≠ lf ∧ 3 ≤ ws.length ∧ ws.length ≤ 20 ∧ ws.Nodup ∧ (∀ w ∈ ws, isKey w = true) ∧ tb ≤ 100 ∧ bb ≤ 100 ∧
  ∀ (v : V) (t : Tr n) (t1 b1 : Nat) (G H' : Hp), t.isRight = true → Tr.Ok n t → Tr.Few n t → Tr.nt n t + t1 = tb + 1 → Tr.nb n t + b1 = bb + 1 → Dp K G v (Tr.dat n t) → Part G H' → (∀ x, H x ≠ none → G x = none) → SrcAt H' a → H' lf = some (.lst [.int (t1 : Nat), .int (b1 : Nat)]) → But (fun x => x = a ∨ x = lf) H H' → Q v H'
end L2.G42

set_option Elab.async false
set_option linter.all false
set_option maxRecDepth 100000
set_option maxHeartbeats 4000000
namespace L2.G42
open PySem PySem.Spec
/-! trees in the heap -/
section
variable {K : PySem.W.Frag} {H : Hp} {n : Nat}
theorem dat_tab_inv {v : V} {m : Str} {es : List (Str × Tr n)} (h : Dp K H v (Tr.dat (n + 1) (Tr.tab m es))) : ∃ a0 a1 evs, v = .ref a0 ∧ SqL K H a0 [.str m, .ref a1] ∧ SqL K H a1 evs ∧ DpAll K H evs (es.map (ent n)) := by
  rw [Tr.dat_tab] at h
  cases h with
  | lst h1 h2 =>
    cases h2 with
    | cons a b =>
      cases a
      cases b with
      | cons c d =>
        cases d
        cases c with
        | lst h3 h4 => exact ⟨_, _, _, rfl, h1, h3, h4⟩
theorem ent_inv {x : V} {e : Str × Tr n} (h : Dp K H x (ent n e)) : ∃ b y, x = .ref b ∧ SqL K H b [.str e.1, y] ∧ Dp K H y (Tr.dat n e.2) := by
  unfold ent at h
  cases h with
  | lst h1 h2 =>
    cases h2 with
    | cons a b =>
      cases a
      cases b with
      | cons c d =>
        cases d
        exact ⟨_, _, rfl, h1, c⟩
theorem dat_bag_inv {v : V} {k : Str} (h : Dp K H v (Tr.dat n (Tr.bag k))) : v = .str k := by
  rw [Tr.dat_bag] at h
  cases h
  rfl
theorem Dp.grow {H' : Hp} {v : V} {d : PyData} (h : Dp K H v d) (g : But (fun _ => False) H H') : Dp K H' v d := Dp.part (fun b o e => g b o e id) d v h
theorem DpAll.grow {H' : Hp} {vs : List V} {ds : List PyData} (h : DpAll K H vs ds) (g : But (fun _ => False) H H') : DpAll K H' vs ds := DpAll.part (fun b o e => g b o e id) ds vs h
theorem isStr_dat (t : Tr n) : isStr (Tr.dat n t) = t.isLeft := by
  cases n with
  | zero =>
    cases t with
    | inl k => rfl
    | inr x => cases x
  | succ n =>
    cases t with
    | inl k => rfl
    | inr x => rfl
end
namespace Tr
theorem commas_snoc (xs : List (List Str)) (y : List Str) : commas (xs ++ [y]) = (if xs = [] then y else commas xs ++ (Str.ofString "," :: y)) := by
  cases xs with
  | nil => simp [commas]
  | cons x xs =>
    rw [if_neg (by simp)]
    show x ++ ((xs ++ [y]).map fun y => Str.ofString "," :: y).flatten = _
    rw [List.map_append, List.flatten_append]
    show _ = (x ++ (xs.map fun y => Str.ofString "," :: y).flatten) ++ _
    simp
theorem commas_len : ∀ xs : List (List Str), (commas xs).length ≤ (xs.map fun x => x.length + 1).sum
  | [] => Nat.le_refl _
  | x :: xs => by
    show (x ++ (xs.map fun y => Str.ofString "," :: y).flatten).length ≤ _
    rw [List.length_append, List.length_flatten, List.map_map, List.map_cons, List.sum_cons]
    have : xs.map (List.length ∘ fun y => Str.ofString "," :: y) = xs.map fun x => x.length + 1 := rfl
    rw [this]
    omega
theorem toks_len : ∀ (n : Nat) (t : Tr n) (p : List Str), (toks n t).length + 3 ≤ 6 * (rows n p t).length := by
  refine ind (fun n k p => ?_) (fun n m es ih p => ?_)
  · rw [toks_bag, rows_bag]
    exact (by decide : 1 + 3 ≤ 6 * 1)
  · rw [toks_tab, rows_tab]
    simp only [List.length_cons, List.length_append, List.length_nil]
    rw [len_flatMap]
    have h := commas_len (es.map fun e => e.1 :: ":" :: toks n e.2)
    rw [List.map_map] at h
    have s : (es.map ((fun x : List Str => x.length + 1) ∘ fun e => e.1 :: ":" :: toks n e.2)).sum ≤ (es.map fun e => 6 * (rows n (p ++ [e.1]) e.2).length).sum := sum_le fun e he => by
      have := ih e he (p ++ [e.1])
      show (e.1 :: Str.ofString ":" :: toks n e.2).length + 1 ≤ _
      simp only [List.length_cons]
      omega
    rw [sum_mul] at s
    omega
end Tr
theorem Tr.tr_cases {n : Nat} (t : Tr (n + 1)) : (∃ k, t = Tr.bag k) ∨ ∃ (m : Str) (es : List (Str × Tr n)), t = Tr.tab m es := by
  cases t with
  | inl k => exact .inl ⟨k, rfl⟩
  | inr x => exact .inr ⟨x.1, x.2, rfl⟩
theorem Tr.tr_zero (t : Tr 0) : ∃ k, t = Tr.bag k := by
  cases t with
  | inl k => exact ⟨k, rfl⟩
  | inr x => cases x
/-- the tokens of an entry -/
abbrev Tr.part {n : Nat} (e : Str × Tr n) : List Str := e.1 :: Str.ofString ":" :: Tr.toks n e.2
theorem Tr.parts_le {n : Nat} (m : Str) (es : List (Str × Tr n)) (q : Nat) : (m :: Str.ofString "{" :: Tr.commas ((es.take q).map Tr.part)).length ≤ 6 * (Tr.rows (n + 1) [] (Tr.tab m es)).length := by
  have c1 := Tr.commas_len ((es.take q).map Tr.part)
  have c2 : (((es.take q).map Tr.part).map fun x => x.length + 1).sum ≤ ((es.map Tr.part).map fun x => x.length + 1).sum := by
    have : es.take q ++ es.drop q = es := List.take_append_drop q es
    conv => rhs; rw [← this]
    rw [List.map_append, List.map_append, List.sum_append]
    omega
  have c3 : ((es.map Tr.part).map fun x => x.length + 1).sum + 6 ≤ 6 * (Tr.rows (n + 1) [] (Tr.tab m es)).length := by
    rw [List.map_map, Tr.rows_tab, List.length_cons, Tr.len_flatMap]
    have s : (es.map ((fun x : List Str => x.length + 1) ∘ Tr.part)).sum ≤ (es.map fun e => 6 * (Tr.rows n ([] ++ [e.1]) e.2).length).sum := Tr.sum_le fun e he => by
      have := Tr.toks_len n e.2 ([] ++ [e.1])
      show (e.1 :: Str.ofString ":" :: Tr.toks n e.2).length + 1 ≤ _
      simp only [List.length_cons]
      omega
    rw [Tr.sum_mul] at s
    omega
  simp only [List.length_cons]
  omega
theorem Tr.parts_step {n : Nat} {es : List (Str × Tr n)} {i : Nat} {e : Str × Tr n} (ee : es[i]? = some e) : Tr.commas ((es.take (i + 1)).map Tr.part) = Tr.commas ((es.take i).map Tr.part) ++ (if 0 < i then [Str.ofString ","] else []) ++ Tr.part e := by
  have e1 : es.take (i + 1) = es.take i ++ [e] := by rw [List.take_add_one, ee]; rfl
  rw [e1, List.map_append, List.map_singleton, Tr.commas_snoc]
  by_cases hp : 0 < i
  · have hne : (es.take i).map Tr.part ≠ [] := fun q => by
      have hl := congrArg List.length q
      rw [List.length_map, List.length_take, List.length_nil] at hl
      have : i < es.length := by
        rcases Nat.lt_or_ge i es.length with z | z
        · exact z
        · rw [List.getElem?_eq_none z] at ee; cases ee
      omega
    rw [if_pos hp, if_neg hne]
    simp
  · have : i = 0 := by omega
    subst this
    simp [Tr.commas]
theorem Tr.child_len {n : Nat} {m : Str} {es : List (Str × Tr n)} {e : Str × Tr n} (he : e ∈ es) : (Tr.rows n [] e.2).length ≤ (Tr.rows (n + 1) [] (Tr.tab m es)).length := by
  have h1 := Tr.rows_len (n + 1) (Tr.tab m es) [] ⟨[] ++ [e.1], n, e.2⟩ (List.mem_cons_of_mem _ (List.mem_flatMap.mpr ⟨e, he, Tr.rows_self n e.2 _⟩))
  have h2 := Tr.len_at n e.2 [] ([] ++ [e.1])
  have h1' : (Tr.rows n ([] ++ [e.1]) e.2).length ≤ (Tr.rows (n + 1) [] (Tr.tab m es)).length := h1
  omega
/-- the tokens of an item -/
def spToksT (K : PySem.W.Frag) (n : Nat) : Sp := fun vs H Q _ => ∃ (v : V) (t : Tr n), vs = [v] ∧ Dp K H v (Tr.dat n t) ∧ (Tr.rows n [] t).length ≤ 1000 ∧
  ∀ (p : Addr) (H' : Hp), H p = none → H' p = some (.lst ((Tr.toks n t).map V.str)) → But (fun _ => False) H H' → Q (.ref p) H'
end L2.G42

set_option Elab.async false
set_option linter.all false
set_option maxRecDepth 100000
set_option maxHeartbeats 4000000
namespace L2.G42
open PySem PySem.Spec
theorem loose_end : ∀ (ps : List (Nat × List Nat)) (e : Nat), loose ps e = loose ps 0 ++ List.replicate e 32
  | [], e => by simp [loose]
  | (s, t) :: ps, e => by
    show List.replicate s 32 ++ (t ++ loose ps e) = List.replicate s 32 ++ (t ++ loose ps 0) ++ List.replicate e 32
    rw [loose_end ps e]
    simp
theorem loose_snoc : ∀ (ps : List (Nat × List Nat)) (s : Nat) (t : List Nat), loose (ps ++ [(s, t)]) 0 = loose ps 0 ++ List.replicate s 32 ++ t
  | [], s, t => by simp [loose]
  | (s', t') :: ps, s, t => by
    show List.replicate s' 32 ++ (t' ++ loose (ps ++ [(s, t)]) 0) = List.replicate s' 32 ++ (t' ++ loose ps 0) ++ List.replicate s 32 ++ t
    rw [loose_snoc ps s t]
    simp
theorem placed_snoc : ∀ (n : Nat) (ps : List (Nat × List Nat)) (s : Nat) (t : List Nat), placed n (ps ++ [(s, t)]) = placed n ps ++ [(n + (loose ps 0).length + s, t)]
  | n, [], s, t => by simp [placed, loose]
  | n, (s', t') :: ps, s, t => by
    show (n + s', t') :: placed (n + s' + t'.length) (ps ++ [(s, t)]) = (n + s', t') :: placed (n + s' + t'.length) ps ++ [(n + (List.replicate s' 32 ++ (t' ++ loose ps 0)).length + s, t)]
    rw [placed_snoc]
    simp only [List.cons_append, List.length_append, List.length_replicate]
    congr 4
    omega
/-- a text of tokens with drawn spaces -/
def spLoose (K : PySem.W.Frag) : Sp := fun vs H Q _ => ∃ (a tl : Addr) (ts : List Str), vs = [.ref a, .ref tl] ∧ SrcAt H a ∧ SqL K H tl (ts.map V.str) ∧ a ≠ tl ∧ ts.length ≤ 6000 ∧ (∀ t ∈ ts, t.length ≤ 9) ∧
  ∀ (p q : Addr) (ps : List (Nat × List Nat)) (e : Nat) (H' : Hp), ps.map (fun x => tx x.2) = ts → (loose ps e).length ≤ 90000 → H p = none → H q = none → H' p = some (.tup [.str (tx (loose ps e)), .ref q]) → H' q = some (.lst ((placed 0 ps).map fun x => V.int (x.1 : Nat))) → SrcAt H' a → But (· = a) H H' → Q (.ref p) H'
end L2.G42

set_option Elab.async false
set_option linter.all false
set_option maxRecDepth 100000
set_option maxHeartbeats 4000000
namespace L2.G42
open PySem PySem.Spec
theorem dpall_zip {K : PySem.W.Frag} {H : Hp} {n : Nat} : ∀ {evs : List V} {es : List (Str × Tr n)}, DpAll K H evs (es.map (ent n)) → ∀ z ∈ evs.zip es, Dp K H z.1 (ent n z.2)
  | [], [], _, z, hz => by cases hz
  | [], _ :: _, h, _, _ => by cases h
  | _ :: _, [], h, _, _ => by cases h
  | x :: evs, e :: es, h, z, hz => by
    cases h with
    | cons a b =>
      rcases List.mem_cons.mp hz with q | q
      · rw [q]; exact a
      · exact dpall_zip b z q
/-- sorted(entries) -/
theorem sort_ents {K : PySem.W.Frag} {G H : Hp} {n : Nat} {a1 : Addr} {evs : List V} {es : List (Str × Tr n)} {Q : VK} (pa : Part G H) (s1 : SqL K H a1 evs) (da : DpAll K G evs (es.map (ent n))) (hd : DiffBy (·.1) es)
    (k : ∀ (p : Addr) (zs : List (V × (Str × Tr n))), H p = none → zs.map Prod.snd = srtBy ltS (·.1) es → (∀ z ∈ zs, Dp K G z.1 (ent n z.2)) → zs.length = es.length → (∀ z ∈ zs, z.2 ∈ es) → Q (.ref p) (upd H p (.lst (zs.map Prod.fst)))) : rSortLS K [.ref a1] H Q := by
  have hl : evs.length = es.length := by rw [DpAll.len da, List.length_map]
  have hdz : DiffBy (fun z : V × (Str × Tr n) => z.2.1) (evs.zip es) := by
    have : DiffBy (·.1) ((evs.zip es).map Prod.snd) := by rw [zip_snd hl]; exact hd
    exact (List.pairwise_map (f := Prod.snd) (R := fun a b : Str × Tr n => a.1 ≠ b.1)).mp this
  refine ⟨V × (Str × Tr n), Prod.fst, fun z => z.2.1, evs.zip es, a1, rfl, by rw [zip_fst hl]; exact s1, fun z hz => ?_, hdz, fun p hp => ?_⟩
  · obtain ⟨b, y, e, sb, _⟩ := ent_inv (dpall_zip da z hz)
    exact ⟨b, [y], e, SqL.part sb pa⟩
  · refine k p (srtBy ltS (fun z : V × (Str × Tr n) => z.2.1) (evs.zip es)) hp ?_ (fun z hz => dpall_zip da z (srtBy_mem.mp hz)) ?_ fun z hz => ?_
    · have := srtBy_map tot_ltS (k := fun z : V × (Str × Tr n) => z.2.1) (k2 := fun e : Str × Tr n => e.1) (f := Prod.snd) (fun _ => rfl) hdz
      rw [zip_snd hl] at this
      exact this.symm
    · rw [srtBy_len, List.length_zip, hl, Nat.min_self]
    · have : z.2 ∈ (evs.zip es).map Prod.snd := List.mem_map.mpr ⟨z, srtBy_mem.mp hz, rfl⟩
      rw [zip_snd hl] at this
      exact this
/-- the text of an item with ascending keys, or its form -/
def spShT (K : PySem.W.Frag) (b : Bool) (n : Nat) : Sp := fun vs H Q _ => ∃ (v : V) (t : Tr n), vs = [v] ∧ Dp K H v (Tr.dat n t) ∧ Tr.Ok n t ∧ (Tr.rows n [] t).length ≤ 1000 ∧ ∀ H' : Hp, But (fun _ => False) H H' → Q (.str (shw b n (Tr.srt n t))) H'
theorem shw_srt {b : Bool} {n : Nat} {m : Str} {es : List (Str × Tr n)} (hd : DiffBy (·.1) es) : shw b (n + 1) (Tr.srt (n + 1) (Tr.tab m es)) = (if b = true then m else "") ++ "{" ++ Txt.join "," ((srtBy ltS (·.1) es).map fun e => e.1 ++ ":" ++ shw b n (Tr.srt n e.2)) ++ "}" := by
  rw [Tr.srt_tab, Tr.srt_es hd, shw_tab, List.map_map]
  rfl
theorem Tr.rows_srt : ∀ (n : Nat) (t : Tr n), Ok n t → ∀ p, (rows n p (srt n t)).length = (rows n p t).length := by
  intro n t ho p
  rw [← marks_len, ← marks_len]
  exact (marks_srt n t ho p).1.length_eq
theorem shw_bag {b : Bool} {n : Nat} {k : Str} : shw b n (Tr.bag k) = if b = true then k else "*" := by
  unfold shw
  rw [Tr.text_bag, Tr.form_bag]
end L2.G42

set_option Elab.async false
set_option linter.all false
set_option maxRecDepth 100000
set_option maxHeartbeats 4000000
namespace L2.G42
open PySem PySem.Spec
/-- the places of an item ascending, each with its item (as it is) -/
def Tr.lrows : (n : Nat) → List Str → Tr n → List Row
  | n, p, .inl k => [⟨p, n, .inl k⟩]
  | 0, _, .inr x => nomatch x
  | n + 1, p, .inr (m, es) => ⟨p, n + 1, tab m es⟩ :: (srtBy ltS (·.1) es).flatMap fun e => Tr.lrows n (p ++ [e.1]) e.2
def Row.srt (r : Row) : Row := ⟨r.pl, r.k, Tr.srt r.k r.t⟩
namespace Tr
theorem lrows_bag {n : Nat} {k : Str} {p : List Str} : lrows n p (bag k) = [⟨p, n, bag k⟩] := by cases n <;> rfl
theorem lrows_tab {n : Nat} {m : Str} {es : List (Str × Tr n)} {p : List Str} : lrows (n + 1) p (tab m es) = ⟨p, n + 1, tab m es⟩ :: (srtBy ltS (·.1) es).flatMap fun e => lrows n (p ++ [e.1]) e.2 := rfl
theorem rows_of_srt : ∀ (n : Nat) (t : Tr n), Ok n t → ∀ p, rows n p (srt n t) = (lrows n p t).map Row.srt := by
  refine ind (fun n k _ p => ?_) (fun n m es ih ho p => ?_)
  · rw [srt_bag, rows_bag, lrows_bag, List.map_singleton]
    show _ = [Row.mk p n (srt n (bag k))]
    rw [srt_bag]
  · rw [lrows_tab, List.map_cons, srt_tab, srt_es ho.2.2.1, rows_tab, List.map_flatMap, List.flatMap_map]
    congr 1
    · show _ = Row.mk p (n + 1) (srt (n + 1) (tab m es))
      rw [srt_tab, srt_es ho.2.2.1]
    · exact flatMap_same fun e he => ih e (srtBy_mem.mp he) (ho.2.2.2 e (srtBy_mem.mp he)).2 _
theorem lrows_ok : ∀ (n : Nat) (t : Tr n), Ok n t → ∀ p, ∀ r ∈ lrows n p t, Ok r.k r.t ∧ r.k ≤ n ∧ (rows r.k [] r.t).length ≤ (rows n [] t).length := by
  refine ind (fun n k h p r hr => ?_) (fun n m es ih ho p r hr => ?_)
  · rw [lrows_bag] at hr
    rw [List.mem_singleton.mp hr]
    exact ⟨h, Nat.le_refl _, Nat.le_refl _⟩
  · rw [lrows_tab] at hr
    rcases List.mem_cons.mp hr with e1 | hr
    · rw [e1]
      exact ⟨ho, Nat.le_refl _, Nat.le_refl _⟩
    · obtain ⟨y, hy, hr⟩ := List.mem_flatMap.mp hr
      have hy' := srtBy_mem.mp hy
      have := ih y hy' (ho.2.2.2 y hy').2 _ r hr
      exact ⟨this.1, Nat.le_succ_of_le this.2.1, Nat.le_trans this.2.2 (child_len hy')⟩
theorem lrows_len {n : Nat} {t : Tr n} (ho : Ok n t) (p : List Str) : (lrows n p t).length = (rows n p t).length := by
  rw [← rows_srt n t ho p, rows_of_srt n t ho p, List.length_map]
end Tr
/-! sorted(texts) -/
theorem ltCps_ltS (x y : Str) : PySem.Spec.ltCps x.cps.toList y.cps.toList = ltS x y := PyProof.Rows.ltCps_eq _ _
theorem rising_all : ∀ (r : List Str) (p : Str), PyProof.Rows.risingS p r = true → (p :: r).Pairwise fun a b => ltS b a = false
  | [], p, _ => List.pairwise_singleton _ _
  | x :: r, p, h => by
    have h' : (!PySem.Spec.ltCps x.cps.toList p.cps.toList && PyProof.Rows.risingS x r) = true := h
    rw [Bool.and_eq_true, Bool.not_eq_true', ltCps_ltS] at h'
    have ih := rising_all r x h'.2
    refine List.pairwise_cons.mpr ⟨fun y hy => ?_, ih⟩
    rcases List.mem_cons.mp hy with e | hy
    · rw [e]; exact h'.1
    · exact (swo_ltS (id : Str → Str)).tr p x y h'.1 ((List.pairwise_cons.mp ih).1 y hy)
theorem sortedS_is {α : Type} {es : List (Str × α)} (hd : DiffBy (·.1) es) {ys : List Str} (p : ys.Perm (es.map (·.1))) (h : PyProof.Rows.sortedS ys = true) : ys = (srtBy ltS (·.1) es).map fun e => e.1 := by
  have s : ys.Pairwise fun a b => ltS b a = false := by
    cases ys with
    | nil => exact List.Pairwise.nil
    | cons x r => exact rising_all r x h
  have nd : ys.Nodup := p.nodup_iff.mpr hd.nd
  have up : UpBy ltS id ys := List.Pairwise.imp₂ (fun a b h1 h2 => by
    cases e : ltS a b with
    | true => exact e
    | false => exact absurd (ltS_conn e h1) h2) s nd
  have up2 : UpBy ltS id ((srtBy ltS (·.1) es).map fun e => e.1) := List.pairwise_map.mpr (srtBy_up tot_ltS hd)
  exact up_uniq tot_ltS (p.trans ((srtBy_perm es).map _).symm) up up2
/-- a row of places in the heap; the items within G -/
def MkRow (K : PySem.W.Frag) (G H : Hp) (v : V) (r : Row) : Prop := ∃ a c x, v = .ref a ∧ H a = some (.tup [.ref c, x]) ∧ H c = some (.tup (r.pl.map V.str)) ∧ Dp K G x (Tr.dat r.k r.t)
def MkRows (K : PySem.W.Frag) (G H : Hp) : List V → List Row → Prop
  | [], [] => True
  | v :: vs, r :: rs => MkRow K G H v r ∧ MkRows K G H vs rs
  | _, _ => False
section
variable {K : PySem.W.Frag} {G H H' : Hp}
theorem MkRows.len : ∀ {vs : List V} {rs : List Row}, MkRows K G H vs rs → vs.length = rs.length
  | [], [], _ => rfl
  | [], _ :: _, h => h.elim
  | _ :: _, [], h => h.elim
  | v :: vs, r :: rs, h => by rw [List.length_cons, List.length_cons, MkRows.len h.2]
theorem MkRows.app : ∀ {vs ws : List V} {rs qs : List Row}, MkRows K G H vs rs → MkRows K G H ws qs → MkRows K G H (vs ++ ws) (rs ++ qs)
  | [], _, [], _, _, b => b
  | [], _, _ :: _, _, h, _ => h.elim
  | _ :: _, _, [], _, h, _ => h.elim
  | v :: vs, _, r :: rs, _, h, b => ⟨h.1, MkRows.app h.2 b⟩
theorem MkRow.keep {v : V} {r : Row} (h : MkRow K G H v r) (k : ∀ b xs, H b = some (.tup xs) → H' b = some (.tup xs)) : MkRow K G H' v r := by
  obtain ⟨a, c, x, e, h1, h2, h3⟩ := h
  exact ⟨a, c, x, e, k _ _ h1, k _ _ h2, h3⟩
theorem MkRows.keep : ∀ {vs : List V} {rs : List Row}, MkRows K G H vs rs → (∀ b xs, H b = some (.tup xs) → H' b = some (.tup xs)) → MkRows K G H' vs rs
  | [], [], _, _ => trivial
  | [], _ :: _, h, _ => h.elim
  | _ :: _, [], h, _ => h.elim
  | v :: vs, r :: rs, h, k => ⟨h.1.keep k, MkRows.keep h.2 k⟩
theorem MkRows.grow {vs : List V} {rs : List Row} (h : MkRows K G H vs rs) (g : But (fun _ => False) H H') : MkRows K G H' vs rs := h.keep fun b xs e => g b _ e id
theorem MkRows.at : ∀ {vs : List V} {rs : List Row} {i : Nat} {v : V}, MkRows K G H vs rs → vs[i]? = some v → ∃ r, rs[i]? = some r ∧ MkRow K G H v r
  | [], [], i, v, _, e => by simp at e
  | [], _ :: _, _, _, h, _ => h.elim
  | _ :: _, [], _, _, h, _ => h.elim
  | x :: vs, r :: rs, 0, v, h, e => by
    have : x = v := by simpa using e
    subst this
    exact ⟨r, rfl, h.1⟩
  | x :: vs, r :: rs, i + 1, v, h, e => MkRows.at (i := i) h.2 (by simpa using e)
end
/-- the places of an item -/
def spMarks (K : PySem.W.Frag) (n : Nat) : Sp := fun vs H Q _ => ∃ (v : V) (t : Tr n) (pl : Addr) (p : List Str) (G : Hp), vs = [v, .ref pl] ∧ Part G H ∧ Dp K G v (Tr.dat n t) ∧ Tr.Ok n t ∧ (Tr.rows n [] t).length ≤ 1000 ∧ H pl = some (.tup (p.map V.str)) ∧ p.length + n ≤ 10 ∧
  ∀ (q : Addr) (vs : List V) (H' : Hp), H q = none → H' q = some (.lst vs) → MkRows K G H' vs (Tr.lrows n p t) → But (fun _ => False) H H' → Q (.ref q) H'
/-- the keys of an item, ascending -/
def spKeysT (K : PySem.W.Frag) : Sp := fun vs H Q _ => ∃ (v : V) (n : Nat) (t : Tr n), vs = [v] ∧ Dp K H v (Tr.dat n t) ∧ Tr.Ok n t ∧ Tr.Few n t ∧
  ∀ (q : Addr) (H' : Hp), H q = none → H' q = some (.tup ((Tr.keys n (Tr.srt n t)).map V.str)) → But (fun _ => False) H H' → Q (.ref q) H'
end L2.G42

set_option Elab.async false
set_option linter.all false
set_option maxRecDepth 100000
set_option maxHeartbeats 4000000
namespace L2.G42
open PySem PySem.Spec
/-! the tokens of a tree: words stand apart -/
def wordS (t : Str) : Prop := Word t.cps.toList
def signS (t : Str) : Prop := Sign t.cps.toList
/-- tokens, no word straight behind a word -/
inductive AltS : List Str → Prop
  | nil : AltS []
  | word {t : Str} (h : wordS t) : AltS [t]
  | sign {t : Str} {r : List Str} (h : signS t) (a : AltS r) : AltS (t :: r)
  | pair {t u : Str} {r : List Str} (h : wordS t) (g : signS u) (a : AltS r) : AltS (t :: u :: r)
theorem AltS.apart : ∀ {ts : List Str}, AltS ts → ∀ (ps : List (Nat × List Nat)), ps.map (fun x => tx x.2) = ts → Apart2 ps := by
  have cps : ∀ {x : Nat × List Nat} {t : Str}, tx x.2 = t → t.cps.toList = x.2 := fun {x t} e => by rw [← e, tx_cps]
  intro ts h
  induction h with
  | nil =>
    intro ps e
    rw [List.map_eq_nil_iff.mp e]
    exact trivial
  | word h =>
    intro ps e
    obtain ⟨a, r, rfl, e1, e2⟩ := Tr.map_cons_inv e
    rw [List.map_eq_nil_iff.mp e2]
    obtain ⟨s, t⟩ := a
    exact .inl (by have := cps e1; rw [← show _ = t from this]; exact h)
  | @sign t r h a ih =>
    intro ps e
    obtain ⟨a, r, rfl, e1, e2⟩ := Tr.map_cons_inv e
    have ih' := ih r e2
    obtain ⟨s, t⟩ := a
    have ht : Sign t := by have := cps e1; rw [← show _ = t from this]; exact h
    cases r with
    | nil => exact .inr ht
    | cons b r =>
      obtain ⟨s2, u⟩ := b
      refine ⟨.inr ht, fun hw => ?_, ih'⟩
      obtain ⟨c, rfl, h1, h2⟩ := ht
      have := hw.2 c List.mem_cons_self
      rw [h1] at this
      cases this
  | @pair t u r h g a ih =>
    intro ps e
    obtain ⟨a, r1, rfl, e1, e2⟩ := Tr.map_cons_inv e
    obtain ⟨b, r2, rfl, e3, e4⟩ := Tr.map_cons_inv e2
    have ih' := ih r2 e4
    obtain ⟨s, t⟩ := a
    obtain ⟨s2, u⟩ := b
    have ht : Word t := by have := cps e1; rw [← show _ = t from this]; exact h
    have hu : Sign u := by have := cps e3; rw [← show _ = u from this]; exact g
    refine ⟨.inl ht, fun _ => .inr hu, ?_⟩
    cases r2 with
    | nil => exact .inr hu
    | cons c r =>
      obtain ⟨s3, v⟩ := c
      refine ⟨.inr hu, fun hw => ?_, ih'⟩
      obtain ⟨c, rfl, h1, h2⟩ := hu
      have := hw.2 c List.mem_cons_self
      rw [h1] at this
      cases this
/-- tokens that end with a sign -/
inductive AltE : List Str → Prop
  | nil : AltE []
  | sign {t : Str} {r : List Str} (h : signS t) (a : AltE r) : AltE (t :: r)
  | pair {t u : Str} {r : List Str} (h : wordS t) (g : signS u) (a : AltE r) : AltE (t :: u :: r)
theorem AltE.alt {ts : List Str} (h : AltE ts) : AltS ts := by
  induction h with
  | nil => exact .nil
  | sign h _ ih => exact .sign h ih
  | pair h g _ ih => exact .pair h g ih
theorem AltE.app {a b : List Str} (h : AltE a) (h2 : AltE b) : AltE (a ++ b) := by
  induction h with
  | nil => exact h2
  | sign h _ ih => exact .sign h ih
  | pair h g _ ih => exact .pair h g ih
theorem key_word {x : Str} (h : isKey x = true) : wordS x := by
  unfold isKey at h
  simp only [Bool.and_eq_true, decide_eq_true_eq] at h
  refine ⟨fun e => ?_, fun c hc => List.all_eq_true.mp h.2.2 c hc⟩
  have : x.length = 0 := by
    show x.cps.size = 0
    rw [← Array.length_toList, e]
    rfl
  omega
theorem mode_word {x : Str} (h : x ∈ modes) : wordS x := by
  have : ∀ x ∈ modes, x.cps.toList ≠ [] ∧ x.cps.toList.all letter = true := by decide +kernel
  exact ⟨(this x h).1, fun c hc => List.all_eq_true.mp (this x h).2 c hc⟩
theorem sign_of {x : Str} {c : Nat} (h : x.cps.toList = [c]) (h1 : letter c = false) (h2 : c ≠ 32) : signS x := ⟨c, h, h1, h2⟩
theorem kind_sign {x : Str} (h : x ∈ kinds) : signS x := by
  have : x = "*" ∨ x = "!" := by simpa [kinds] using h
  rcases this with rfl | rfl
  · exact sign_of (c := 42) (by decide +kernel) (by decide) (by decide)
  · exact sign_of (c := 33) (by decide +kernel) (by decide) (by decide)
theorem sg_open : signS "{" := sign_of (c := 123) (by decide +kernel) (by decide) (by decide)
theorem sg_close : signS "}" := sign_of (c := 125) (by decide +kernel) (by decide) (by decide)
theorem sg_colon : signS ":" := sign_of (c := 58) (by decide +kernel) (by decide) (by decide)
theorem sg_comma : signS "," := sign_of (c := 44) (by decide +kernel) (by decide) (by decide)
namespace Tr
theorem alt_flat : ∀ xs : List (List Str), (∀ x ∈ xs, AltE x) → AltE ((xs.map fun y => Str.ofString "," :: y).flatten)
  | [], _ => .nil
  | x :: xs, h => by
    rw [List.map_cons, List.flatten_cons]
    exact AltE.app (.sign sg_comma (h x List.mem_cons_self)) (alt_flat xs fun y hy => h y (List.mem_cons_of_mem _ hy))
theorem alt_commas {xs : List (List Str)} (h : ∀ x ∈ xs, AltE x) : AltE (commas xs) := by
  cases xs with
  | nil => exact .nil
  | cons x xs => exact AltE.app (h x List.mem_cons_self) (alt_flat xs fun y hy => h y (List.mem_cons_of_mem _ hy))
theorem alt_toks : ∀ (n : Nat) (t : Tr n), Ok n t → AltE (toks n t) := by
  refine ind (fun n k h => ?_) (fun n m es ih ho => ?_)
  · rw [toks_bag]
    exact .sign (kind_sign (by rw [← ok_bag (n := n)]; exact h)) .nil
  · rw [toks_tab]
    refine .pair (mode_word ho.1) sg_open (AltE.app (alt_commas fun x hx => ?_) (.sign sg_close .nil))
    obtain ⟨e, he, rfl⟩ := List.mem_map.mp hx
    exact .pair (key_word (ho.2.2.2 e he).1) sg_colon (ih e he (ho.2.2.2 e he).2)
theorem toks_short : ∀ (n : Nat) (t : Tr n), Ok n t → ∀ x ∈ toks n t, x.length ≤ 9 := by
  refine ind (fun n k h x hx => ?_) (fun n m es ih ho x hx => ?_)
  · rw [toks_bag] at hx
    rw [List.mem_singleton.mp hx, kind_len (by rw [← ok_bag (n := n)]; exact h)]
    decide
  · rw [toks_tab] at hx
    have c1 : ∀ s ∈ ([Str.ofString "{", Str.ofString "}", Str.ofString ",", Str.ofString ":"] : List Str), s.length ≤ 9 := by decide +kernel
    have mem_commas : ∀ (xs : List (List Str)) (y : Str), y ∈ commas xs → y = "," ∨ ∃ l ∈ xs, y ∈ l := by
      intro xs y hy
      cases xs with
      | nil => cases hy
      | cons a xs =>
        rcases List.mem_append.mp (show y ∈ a ++ _ from hy) with h | h
        · exact .inr ⟨a, List.mem_cons_self, h⟩
        · obtain ⟨l, hl, h⟩ := List.mem_flatten.mp h
          obtain ⟨z, hz, rfl⟩ := List.mem_map.mp hl
          rcases List.mem_cons.mp h with h | h
          · exact .inl h
          · exact .inr ⟨z, List.mem_cons_of_mem _ hz, h⟩
    rcases List.mem_cons.mp hx with e | hx
    · rw [e, mode_len ho.1]; decide
    rcases List.mem_cons.mp hx with e | hx
    · rw [e]; exact c1 _ (by simp)
    rcases List.mem_append.mp hx with hx | hx
    · rcases mem_commas _ _ hx with e | ⟨l, hl, hx⟩
      · rw [e]; exact c1 _ (by simp)
      · obtain ⟨e, he, rfl⟩ := List.mem_map.mp hl
        rcases List.mem_cons.mp hx with h | hx
        · rw [h]
          have := (key_len (ho.2.2.2 e he).1).2
          omega
        rcases List.mem_cons.mp hx with h | hx
        · rw [h]; exact c1 _ (by simp)
        · exact ih e he (ho.2.2.2 e he).2 x hx
    · rw [List.mem_singleton.mp hx]; exact c1 _ (by simp)
end Tr
/-- the tokens of a loose text of a tree -/
theorem toks_of_loose {n : Nat} {t : Tr n} (ho : Tr.Ok n t) {ps : List (Nat × List Nat)} {e : Nat} (hp : ps.map (fun x => tx x.2) = Tr.toks n t) : toks 0 (loose ps e) = placed 0 ps := toks_loose ps e 0 ((Tr.alt_toks n t ho).alt.apart ps hp)
theorem placed_tw : ∀ (ps : List (Nat × List Nat)) (n : Nat), (placed n ps).map tw = ps.map fun x => tx x.2
  | [], _ => rfl
  | (s, t) :: ps, n => by
    show tw (n + s, t) :: (placed _ ps).map tw = tx t :: _
    rw [placed_tw ps]
    rfl
/-- a loose text of a tree within the bounds is read -/
theorem read_loose {n : Nat} {t : Tr n} (hn : n = 4) (hR : t.isRight = true) (ho : Tr.Ok n t) (hf : Tr.Few n t) (h1 : Tr.nt n t ≤ 6) (h2 : Tr.nb n t ≤ 6) {ps : List (Nat × List Nat)} {e : Nat} (hp : ps.map (fun x => tx x.2) = Tr.toks n t) :
    ∃ s2, rdWhole (rdStart (tx (loose ps e))) = .ok s2 ∧ s2.marks = kmk (Tr.marks n [] t) := by
  have et : (rdStart (tx (loose ps e))).toks = placed 0 ps := by
    show toks 0 (tx (loose ps e)).cps.toList = _
    rw [tx_cps, toks_of_loose ho hp]
  have ea : (rdStart (tx (loose ps e))).ah = placed 0 ps ++ [] := by
    show (rdStart (tx (loose ps e))).toks.drop 0 = _
    rw [et, List.drop_zero, List.append_nil]
  have r := Tr.read_tab n t [] ho hf hR (rdStart (tx (loose ps e))) (placed 0 ps) [] ea (by rw [placed_tw, hp]) (fun q hq => by cases hq) (by show 0 + _ ≤ 6; omega) (by show 0 + _ ≤ 6; omega)
  refine ⟨(rdStart (tx (loose ps e))).adv (placed 0 ps).length (Tr.marks n [] t) (Tr.nt n t) (Tr.nb n t), ?_, rfl⟩
  unfold rdWhole
  subst hn
  have r' : rdTable 4 [] (rdStart (tx (loose ps e))) = _ := r
  rw [r']
  show (if _ then _ else _) = _
  rw [if_neg]
  show ¬ 0 + (placed 0 ps).length < (rdStart (tx (loose ps e))).toks.length
  rw [et]
  omega
end L2.G42

set_option Elab.async false
set_option linter.all false
set_option maxRecDepth 100000
set_option maxHeartbeats 4000000
/-! texts of places: split at one sign; two ways of reading them -/
namespace L2.G42
open PySem PySem.Spec
def splC (s : Nat) : List Nat → List (List Nat)
  | [] => [[]]
  | c :: r => if c = s then [] :: splC s r else match splC s r with
    | [] => [[c]]
    | h :: t => (c :: h) :: t
theorem splC_ex (s : Nat) : ∀ l, ∃ h t, splC s l = h :: t
  | [] => ⟨[], [], rfl⟩
  | c :: r => by
    rw [splC]
    split
    · exact ⟨_, _, rfl⟩
    · obtain ⟨h, t, e⟩ := splC_ex s r
      rw [e]
      exact ⟨_, _, rfl⟩
theorem splC_hit (s : Nat) (r : List Nat) : splC s (s :: r) = [] :: splC s r := by rw [splC, if_pos rfl]
theorem splC_miss {s c : Nat} (h : c ≠ s) {r : List Nat} {p : List Nat} {t : List (List Nat)} (e : splC s r = p :: t) : splC s (c :: r) = (c :: p) :: t := by rw [splC, if_neg h, e]
theorem splC_app {s : Nat} : ∀ {a : List Nat}, s ∉ a → ∀ {r p : List Nat} {t : List (List Nat)}, splC s r = p :: t → splC s (a ++ r) = (a ++ p) :: t
  | [], _, r, p, t, e => e
  | c :: a, h, r, p, t, e => by
    have ih := splC_app (a := a) (fun z => h (List.mem_cons_of_mem _ z)) e
    exact splC_miss (fun z => h (by rw [z]; exact List.mem_cons_self)) ih
theorem splC_none {s : Nat} {a : List Nat} (h : s ∉ a) : splC s a = [a] := by
  have := splC_app h (r := []) rfl
  rwa [List.append_nil] at this
theorem spl_splC (s : Nat) : ∀ (l acc : List Nat), TL.spl [s] 0 acc l = match splC s l with | [] => [acc] | h :: t => (acc ++ h) :: t
  | [], acc => by rw [TL.spl_nil]; show _ = [acc ++ []]; rw [List.append_nil]
  | c :: r, acc => by
    by_cases h : c = s
    · subst h
      rw [TL.spl_hit (by show TL.pre [c] ([c] ++ r) = true; exact TL.pre_self _ _), splC_hit]
      have := spl_splC c r []
      obtain ⟨p, t, e⟩ := splC_ex c r
      rw [e] at this
      show acc :: TL.spl [c] 0 [] r = (acc ++ []) :: splC c r
      rw [this, e, List.append_nil]
      rfl
    · rw [TL.spl_miss (TL.pre_of_head _ _ h), spl_splC s r]
      obtain ⟨p, t, e⟩ := splC_ex s r
      rw [splC_miss h e, e]
      show ((acc ++ [c]) ++ p) :: t = (acc ++ (c :: p)) :: t
      rw [List.append_assoc]
      rfl
/-- the part of a row of parts -/
def keyPart (p : List Nat) : Option Str := if p.getLast? = some 93 ∧ isKey (tx p.dropLast) = true then some (tx p.dropLast) else none
def parseP : List (List Nat) → Option (List Str)
  | [] => some []
  | p :: ps => (keyPart p).bind fun k => (parseP ps).map (k :: ·)
/-- by the first closing sign -/
def parseL : Nat → List Nat → Option (List Str)
  | 0, _ => none
  | n + 1, [] => some []
  | n + 1, c :: r => if c = 91 ∧ 93 ∈ r ∧ isKey (tx (r.takeWhile (· ≠ 93))) = true then (parseL n ((r.dropWhile (· ≠ 93)).drop 1)).map (tx (r.takeWhile (· ≠ 93)) :: ·) else none
theorem key_no {x : List Nat} (h : isKey (tx x) = true) {c : Nat} (hc : letter c = false) : c ∉ x := fun z => by
  have := (key_word h).2 c (by rw [tx_cps]; exact z)
  rw [hc] at this
  cases this
theorem tw_split : ∀ {r : List Nat}, 93 ∈ r → r = r.takeWhile (· ≠ 93) ++ 93 :: (r.dropWhile (· ≠ 93)).drop 1 ∧ 93 ∉ r.takeWhile (· ≠ 93)
  | [], h => by cases h
  | c :: r, h => by
    by_cases e : c = 93
    · subst e
      simp
    · have h' : 93 ∈ r := by
        rcases List.mem_cons.mp h with z | z
        · exact absurd z.symm e
        · exact z
      obtain ⟨h1, h2⟩ := tw_split h'
      have t1 : (c :: r).takeWhile (· ≠ 93) = c :: r.takeWhile (· ≠ 93) := by rw [List.takeWhile_cons, if_pos (by simpa using e)]
      have t2 : (c :: r).dropWhile (· ≠ 93) = r.dropWhile (· ≠ 93) := by rw [List.dropWhile_cons, if_pos (by simpa using e)]
      rw [t1, t2]
      refine ⟨by rw [List.cons_append, ← h1], fun z => ?_⟩
      rcases List.mem_cons.mp z with z | z
      · exact e z.symm
      · exact h2 z
theorem keyPart_none {p : List Nat} (h : 93 ∉ p) : keyPart p = none := by
  unfold keyPart
  rw [if_neg]
  rintro ⟨h1, _⟩
  exact h (List.mem_of_getLast? h1)
theorem first_sub (s : Nat) : ∀ (l : List Nat) (p : List Nat) (t : List (List Nat)), splC s l = p :: t → ∀ c ∈ p, c ∈ l
  | [], p, t, e, c, hc => by
    injection e with e
    rw [← e] at hc
    cases hc
  | d :: r, p, t, e, c, hc => by
    by_cases h : d = s
    · subst h
      rw [splC_hit] at e
      injection e with e
      rw [← e] at hc
      cases hc
    · obtain ⟨p', t', e'⟩ := splC_ex s r
      rw [splC_miss h e'] at e
      injection e with e
      rw [← e] at hc
      rcases List.mem_cons.mp hc with z | z
      · rw [z]; exact List.mem_cons_self
      · exact List.mem_cons_of_mem _ (first_sub s r p' t' e' c z)
/-- the two ways agree -/
theorem parse_same : ∀ (n : Nat) (r : List Nat), r.length < n → parseL (n + 1) (91 :: r) = parseP (splC 91 r) := by
  intro n
  induction n with
  | zero => intro r h; omega
  | succ n ih =>
    intro r hn
    obtain ⟨p, t, e⟩ := splC_ex 91 r
    by_cases h93 : 93 ∈ r
    · obtain ⟨h1, h2⟩ := tw_split h93
      generalize hk : r.takeWhile (· ≠ 93) = key at h1 h2
      generalize hd : (r.dropWhile (· ≠ 93)).drop 1 = r' at h1
      by_cases hkey : isKey (tx key) = true
      · have hL : parseL (n + 1 + 1) (91 :: r) = (parseL (n + 1) r').map (tx key :: ·) := by
          rw [parseL, if_pos ⟨rfl, h93, by rw [hk]; exact hkey⟩, hk, hd]
        rw [hL]
        have no91 : 91 ∉ key ++ [93] := fun z => by
          rcases List.mem_append.mp z with z | z
          · exact key_no hkey (by decide) z
          · simp at z
        have hr : r = (key ++ [93]) ++ r' := by rw [h1]; simp
        have kp : keyPart (key ++ [93]) = some (tx key) := by
          unfold keyPart
          rw [if_pos ⟨by simp, by rw [List.dropLast_concat]; exact hkey⟩, List.dropLast_concat]
        cases r' with
        | nil =>
          rw [hr, List.append_nil, splC_none no91]
          show (some []).map _ = (keyPart (key ++ [93])).bind fun k => (some []).map (k :: ·)
          rw [kp]
          rfl
        | cons c r2 =>
          by_cases hc : c = 91
          · subst hc
            have hlen : r2.length < n := by
              have := congrArg List.length hr
              simp at this
              omega
            rw [ih r2 hlen]
            have : splC 91 r = (key ++ [93]) :: splC 91 r2 := by
              rw [hr]
              have := splC_app no91 (splC_hit 91 r2)
              rwa [List.append_nil] at this
            rw [this]
            show _ = (keyPart (key ++ [93])).bind fun k => (parseP (splC 91 r2)).map (k :: ·)
            rw [kp]
            rfl
          · have hLn : parseL (n + 1) (c :: r2) = none := by rw [parseL, if_neg (fun z => hc z.1)]
            rw [hLn]
            obtain ⟨p2, t2, e2⟩ := splC_ex 91 r2
            have : splC 91 r = ((key ++ [93]) ++ (c :: p2)) :: t2 := by
              rw [hr]
              exact splC_app no91 (splC_miss hc e2)
            rw [this]
            show none = (keyPart _).bind _
            have kn : keyPart ((key ++ [93]) ++ (c :: p2)) = none := by
              unfold keyPart
              rw [if_neg]
              rintro ⟨_, z⟩
              refine key_no z (c := 93) (by decide) ?_
              rw [List.dropLast_append_of_ne_nil (by simp)]
              exact List.mem_append_left _ (by simp)
            rw [kn]
            rfl
      · have hL : parseL (n + 1 + 1) (91 :: r) = none := by rw [parseL, if_neg (fun z => hkey (by rw [← hk]; exact z.2.2))]
        rw [hL, e]
        show none = (keyPart p).bind _
        have kn : keyPart p = none := by
          by_cases h91 : 91 ∈ key
          · refine keyPart_none fun z => h2 ?_
            -- the first part ends within key
            have : ∃ p' t', splC 91 key = p' :: t' ∧ ∃ t'', splC 91 r = p' :: t'' := by
              rw [h1]
              clear hkey hL e h1 hk hd h93 hn
              induction key with
              | nil => cases h91
              | cons d key ihk =>
                by_cases hd : d = 91
                · subst hd
                  exact ⟨[], _, splC_hit 91 key, _, by rw [List.cons_append, splC_hit]⟩
                · have h91' : 91 ∈ key := by
                    rcases List.mem_cons.mp h91 with z | z
                    · exact absurd z.symm hd
                    · exact z
                  obtain ⟨p', t', e1, t'', e2⟩ := ihk (fun z => h2 (List.mem_cons_of_mem _ z)) h91'
                  exact ⟨d :: p', t', splC_miss hd e1, t'', by rw [List.cons_append]; exact splC_miss hd e2⟩
            obtain ⟨p', t', e1, t'', e2⟩ := this
            rw [e] at e2
            injection e2 with e2
            rw [e2] at z
            exact first_sub 91 key p' t' e1 93 z
          · obtain ⟨p2, t2, e2⟩ := splC_ex 91 r'
            have no91 : 91 ∉ key ++ [93] := fun z => by
              rcases List.mem_append.mp z with z | z
              · exact h91 z
              · simp at z
            have hr : r = (key ++ [93]) ++ r' := by rw [h1]; simp
            have := splC_app no91 e2
            rw [← hr, e] at this
            injection this with this
            unfold keyPart
            rw [if_neg]
            rintro ⟨_, z⟩
            rw [this] at z
            cases p2 with
            | nil =>
              rw [List.append_nil, List.dropLast_concat] at z
              exact hkey z
            | cons d p2 =>
              refine key_no z (c := 93) (by decide) ?_
              rw [List.dropLast_append_of_ne_nil (by simp)]
              exact List.mem_append_left _ (by simp)
        rw [kn]
        rfl
    · have hL : parseL (n + 1 + 1) (91 :: r) = none := by rw [parseL, if_neg (fun z => h93 z.2.1)]
      rw [hL, e]
      show none = (keyPart p).bind _
      rw [keyPart_none (fun z => h93 (first_sub 91 r p t e 93 z))]
      rfl
end L2.G42

set_option Elab.async false
set_option linter.all false
set_option maxRecDepth 100000
set_option maxHeartbeats 4000000
namespace L2.G42
open PySem PySem.Spec
theorem split_one (x : Str) {s : Nat} (hs : s < 256) : Txt.split x (tx [s]) = (splC s x.cps.toList).map tx := by
  refine TL.map_tl_inj ?_
  rw [TL.split_spl x (tx [s]) (by show (tx [s]).cps.toList ≠ []; rw [tx_cps]; simp) (TL.kind_ok (by simp [tx]; exact hs))]
  show TL.spl (tx [s]).cps.toList 0 [] x.cps.toList = ((splC s x.cps.toList).map tx).map fun y => y.cps.toList
  rw [tx_cps, spl_splC]
  obtain ⟨h, t, e⟩ := splC_ex s x.cps.toList
  rw [e, List.map_map]
  show ([] ++ h) :: t = _
  rw [List.nil_append]
  have : ((fun y : Str => y.cps.toList) ∘ tx) = id := by
    funext y
    exact tx_cps y
  rw [this, List.map_id]
theorem starts_root (x : Str) : Txt.startswith x "root" = decide (x.cps.toList.take 4 = [114, 111, 111, 116]) := by
  unfold Txt.startswith
  rw [StrLaws.subAt_eq, List.drop_zero]
  have e1 : (Str.ofString "root").length = 4 := by decide +kernel
  have e2 : (Str.ofString "root").cps.toList = [114, 111, 111, 116] := by decide +kernel
  rw [e1, e2]
  have hx : x.cps.toList.length = x.length := by show _ = x.cps.size; simp
  by_cases h : x.cps.toList.take 4 = [114, 111, 111, 116]
  · have l := congrArg List.length h
    rw [List.length_take] at l
    have l : min 4 x.cps.toList.length = 4 := l
    rw [decide_eq_true h, h, decide_eq_true (by omega)]
    rfl
  · rw [decide_eq_false h]
    have : (x.cps.toList.take 4 == [114, 111, 111, 116]) = false := by
      rw [Bool.eq_false_iff]
      intro z
      exact h (eq_of_beq z)
    rw [this, Bool.and_false]
theorem ends_close (x : Str) : Txt.endswith x "]" = decide (x.cps.toList.getLast? = some 93) := by
  unfold Txt.endswith
  rw [StrLaws.subAt_eq]
  have e1 : (Str.ofString "]").length = 1 := by decide +kernel
  have e2 : (Str.ofString "]").cps.toList = [93] := by decide +kernel
  have hx : x.cps.toList.length = x.length := by show _ = x.cps.size; simp
  rw [e1, e2, List.getLast?_eq_getElem?, hx, Bool.eq_iff_iff, Bool.and_eq_true_iff, decide_eq_true_eq, decide_eq_true_eq, StrLaws.take1_drop]
  constructor
  · exact fun h => h.2
  · intro h
    refine ⟨?_, h⟩
    obtain ⟨hlt, _⟩ := List.getElem?_eq_some_iff.mp h
    omega
theorem find_close (x : Str) : Txt.find x "]" = if 93 ∈ x.cps.toList then ((x.cps.toList.takeWhile (· ≠ 93)).length : Int) else -1 := by
  have e2 : Str.ofString "]" = ⟨#[93]⟩ := by decide +kernel
  rw [e2]
  rcases PyProof.Rows.find_whole x ⟨#[93]⟩ with ⟨h, hn⟩ | ⟨i, h, hi, hn⟩
  · rw [h, if_neg]
    intro z
    obtain ⟨i, hi⟩ := List.mem_iff_getElem?.mp z
    exact hn i ((StrLaws.subAt_one x 93 i).mpr hi)
  · have hi' := (StrLaws.subAt_one x 93 i).mp hi
    have hm : 93 ∈ x.cps.toList := List.mem_of_getElem? hi'
    rw [h, if_pos hm]
    obtain ⟨h1, h2⟩ := tw_split hm
    generalize x.cps.toList.takeWhile (· ≠ 93) = k at h1 h2
    have : i = k.length := by
      rcases Nat.lt_trichotomy i k.length with z | z | z
      · rw [h1, List.getElem?_append_left z] at hi'
        exact absurd (List.mem_of_getElem? hi') h2
      · exact z
      · exfalso
        refine hn k.length z ((StrLaws.subAt_one x 93 k.length).mpr ?_)
        rw [h1]
        simp
    rw [this]
end L2.G42

set_option Elab.async false
set_option linter.all false
set_option maxRecDepth 100000
set_option maxHeartbeats 4000000
/-! places and goals out of texts -/
namespace L2.G42
open PySem PySem.Spec
theorem first_pre (s : Nat) : ∀ (l p : List Nat) (t : List (List Nat)), splC s l = p :: t → ∃ r, l = p ++ r
  | [], p, t, e => by
    injection e with e
    exact ⟨[], by rw [← e]; rfl⟩
  | d :: r, p, t, e => by
    by_cases h : d = s
    · subst h
      rw [splC_hit] at e
      injection e with e
      exact ⟨d :: r, by rw [← e]; rfl⟩
    · obtain ⟨p', t', e'⟩ := splC_ex s r
      rw [splC_miss h e'] at e
      injection e with e
      obtain ⟨r', er⟩ := first_pre s r p' t' e'
      exact ⟨r', by rw [← e, List.cons_append, ← er]⟩
/-- the parts with the sign between -/
def glue (s : Nat) : List (List Nat) → List Nat
  | [] => []
  | [p] => p
  | p :: q :: r => p ++ s :: glue s (q :: r)
theorem glue_splC (s : Nat) : ∀ l, glue s (splC s l) = l
  | [] => rfl
  | c :: r => by
    obtain ⟨p, t, e⟩ := splC_ex s r
    have ih := glue_splC s r
    rw [e] at ih
    by_cases h : c = s
    · subst h
      rw [splC_hit, e]
      show [] ++ c :: glue c (p :: t) = _
      rw [ih]
      rfl
    · rw [splC_miss h e]
      cases t with
      | nil =>
        have ih : p = r := ih
        rw [ih]
        rfl
      | cons q t =>
        show (c :: p) ++ s :: glue s (q :: t) = _
        have ih : p ++ s :: glue s (q :: t) = r := ih
        rw [List.cons_append, ih]
def rootL : List Nat := [114, 111, 111, 116]
def placeP (w : List Nat) : Option (List Str) := match splC 91 w with
  | [] => none
  | h :: t => if h = rootL then parseP t else none
def placeL (w : List Nat) : Option (List Str) := if w.take 4 = rootL then parseL (w.length + 1) (w.drop 4) else none
theorem place_same (w : List Nat) : placeP w = placeL w := by
  unfold placeP placeL
  by_cases hw : w.take 4 = rootL
  · rw [if_pos hw]
    have ew : w = rootL ++ w.drop 4 := by rw [← hw, List.take_append_drop]
    have no : 91 ∉ rootL := by decide
    generalize hr : w.drop 4 = rest at ew
    have hlen : w.length = 4 + rest.length := by rw [ew, List.length_append]; rfl
    obtain ⟨h, t, e⟩ := splC_ex 91 rest
    have es : splC 91 w = (rootL ++ h) :: t := by rw [ew]; exact splC_app no e
    rw [es]
    show (if rootL ++ h = rootL then parseP t else none) = _
    cases rest with
    | nil =>
      have e : [[]] = h :: t := e
      injection e with e1 e2
      subst e1 e2
      rw [if_pos (List.append_nil _)]
      rfl
    | cons c r =>
      by_cases hc : c = 91
      · subst hc
        rw [splC_hit] at e
        injection e with e1 e2
        subst e1 e2
        rw [if_pos (List.append_nil _)]
        have := parse_same w.length r (by rw [hlen, List.length_cons]; omega)
        rw [this]
      · obtain ⟨p', t', e'⟩ := splC_ex 91 r
        rw [splC_miss hc e'] at e
        injection e with e1 e2
        subst e1
        rw [if_neg (fun z => by have := List.append_right_eq_self.mp z; cases this), parseL, if_neg (fun z => hc z.1)]
  · rw [if_neg hw]
    obtain ⟨h, t, e⟩ := splC_ex 91 w
    rw [e]
    show (if h = rootL then parseP t else none) = none
    rw [if_neg]
    intro z
    obtain ⟨r, er⟩ := first_pre 91 w h t e
    exact hw (by rw [er, z]; rfl)
/-- the text of a place -/
def placeT (p : List Str) : List Nat := rootL ++ (p.map fun k => 91 :: (k.cps.toList ++ [93])).flatten
theorem parse_text : ∀ (t : List (List Nat)) (p : List Str), parseP t = some p → t = p.map fun k => k.cps.toList ++ [93]
  | [], p, h => by
    injection h with h
    rw [← h]
    rfl
  | q :: t, p, h => by
    rw [parseP, Option.bind_eq_some_iff] at h
    obtain ⟨k, h1, h2⟩ := h
    rw [Option.map_eq_some_iff] at h2
    obtain ⟨p', h2, rfl⟩ := h2
    have ih := parse_text t p' h2
    unfold keyPart at h1
    split at h1
    · rename_i hc
      injection h1 with h1
      rw [List.map_cons, ← ih, ← h1, tx_cps]
      congr 1
      have hne : q ≠ [] := fun z => by rw [z] at hc; cases hc.1
      have := List.dropLast_concat_getLast hne
      rw [List.getLast?_eq_some_getLast hne] at hc
      have hl : q.getLast hne = 93 := by injection hc.1
      rw [hl] at this
      exact this.symm
    · cases h1
theorem place_text {w : List Nat} {p : List Str} (h : placeP w = some p) : placeT p = w := by
  unfold placeP at h
  obtain ⟨q, t, e⟩ := splC_ex 91 w
  rw [e] at h
  have h : (if q = rootL then parseP t else none) = some p := h
  split at h
  · rename_i hq
    have et := parse_text t p h
    have g := glue_splC 91 w
    rw [e, hq, et] at g
    rw [← g]
    unfold placeT
    clear h g et e
    have gen : ∀ (p : List Str) (a : List Nat), glue 91 (a :: p.map fun k => k.cps.toList ++ [93]) = a ++ (p.map fun k => 91 :: (k.cps.toList ++ [93])).flatten := by
      intro p
      induction p with
      | nil => intro a; simp [glue]
      | cons k p ih =>
        intro a
        show a ++ 91 :: glue 91 ((k.cps.toList ++ [93]) :: p.map fun k => k.cps.toList ++ [93]) = _
        rw [ih]
        simp
    exact (gen p rootL).symm
  · cases h
theorem parse_keys : ∀ (t : List (List Nat)) (p : List Str), parseP t = some p → ∀ k ∈ p, isKey k = true
  | [], p, h, k, hk => by
    injection h with h
    rw [← h] at hk
    cases hk
  | q :: t, p, h, k, hk => by
    rw [parseP, Option.bind_eq_some_iff] at h
    obtain ⟨k', h1, h2⟩ := h
    rw [Option.map_eq_some_iff] at h2
    obtain ⟨p', h2, rfl⟩ := h2
    rcases List.mem_cons.mp hk with z | z
    · rw [z]
      unfold keyPart at h1
      split at h1
      · rename_i hc
        injection h1 with h1
        rw [← h1]
        exact hc.2
      · cases h1
    · exact parse_keys t p' h2 k z
end L2.G42

set_option Elab.async false
set_option linter.all false
set_option maxRecDepth 100000
set_option maxHeartbeats 4000000
/-! goals out of texts -/
namespace L2.G42
open PySem PySem.Spec
def kindsG : List Str := ["missing", "extra", "late", "held", "lost", "undone", "stays", "returns"]
def statesG : List Str := ["missing", "extra", "late", "held", "lost"]
/-- a goal by the words of its text -/
def goalW : List (List Nat) → Option (Str × List Str × Bool)
  | [k, w] => if kindsG.contains (tx k) = true then (placeP w).map fun p => (tx k, p, false) else none
  | [k, w, e] => if statesG.contains (tx k) = true ∧ tx e = "end" then (placeP w).map fun p => (tx k, p, true) else none
  | _ => none
def goalP (z : Str) : Option (Str × List Str × Bool) := if z = "shown" then some ("shown", [], false) else goalW (splC 32 z.cps.toList)
theorem states_kinds {x : Str} (h : statesG.contains x = true) : kindsG.contains x = true := by
  have : ∀ y ∈ statesG, y ∈ kindsG := by decide +kernel
  exact List.contains_iff_mem.mpr (this x (List.contains_iff_mem.mp h))
theorem kind_shown {x : Str} (h : kindsG.contains x = true) : x ≠ "shown" := fun e => by
  rw [e] at h
  exact absurd h (by decide +kernel)
/-- the text of a goal -/
def goalT (k : Str) (p : List Str) (e : Bool) : Str := if k = "shown" then "shown" else tx (k.cps.toList ++ 32 :: (placeT p ++ if e = true then 32 :: [101, 110, 100] else []))
theorem goal_text {z k : Str} {p : List Str} {e : Bool} (h : goalP z = some (k, p, e)) : goalT k p e = z := by
  unfold goalP at h
  by_cases hz : z = "shown"
  · rw [if_pos hz] at h
    injection h with h
    injection h with h1 h2
    rw [← h1, hz]
    rfl
  · rw [if_neg hz] at h
    have g := glue_splC 32 z.cps.toList
    generalize splC 32 z.cps.toList = ws at h g
    match ws, h, g with
    | [], h, g => cases h
    | [_], h, g => cases h
    | [a, w], h, g =>
      have h : (if kindsG.contains (tx a) = true then (placeP w).map fun p => (tx a, p, false) else none) = some (k, p, e) := h
      split at h
      · rename_i hk
        rw [Option.map_eq_some_iff] at h
        obtain ⟨p', h1, h2⟩ := h
        injection h2 with h2 h3
        injection h3 with h3 h4
        subst h2 h3 h4
        unfold goalT
        rw [if_neg (kind_shown hk), tx_cps, place_text h1]
        apply str_ext
        rw [tx_cps, ← g]
        simp [glue]
      · cases h
    | [a, w, q], h, g =>
      have h : (if statesG.contains (tx a) = true ∧ tx q = "end" then (placeP w).map fun p => (tx a, p, true) else none) = some (k, p, e) := h
      split at h
      · rename_i hk
        rw [Option.map_eq_some_iff] at h
        obtain ⟨p', h1, h2⟩ := h
        injection h2 with h2 h3
        injection h3 with h3 h4
        subst h2 h3 h4
        have hq : q = [101, 110, 100] := by
          have := congrArg (fun x : Str => x.cps.toList) hk.2
          have : (tx q).cps.toList = (Str.ofString "end").cps.toList := this
          rw [tx_cps] at this
          rw [this]
          decide +kernel
        unfold goalT
        rw [if_neg (kind_shown (states_kinds hk.1)), tx_cps, place_text h1, if_pos rfl]
        apply str_ext
        rw [tx_cps, ← g, hq]
        simp [glue]
      · cases h
    | _ :: _ :: _ :: _ :: _, h, g => cases h
theorem goal_keys {z k : Str} {p : List Str} {e : Bool} (h : goalP z = some (k, p, e)) : ∀ x ∈ p, isKey x = true := by
  have pk : ∀ {w : List Nat} {p : List Str}, placeP w = some p → ∀ x ∈ p, isKey x = true := fun {w p} h => by
    unfold placeP at h
    obtain ⟨q, t, e⟩ := splC_ex 91 w
    rw [e] at h
    have h : (if q = rootL then parseP t else none) = some p := h
    split at h
    · exact parse_keys t p h
    · cases h
  unfold goalP at h
  by_cases hz : z = "shown"
  · rw [if_pos hz] at h
    injection h with h
    injection h with h1 h2
    injection h2 with h2 h3
    rw [← h2]
    intro x hx
    cases hx
  · rw [if_neg hz] at h
    generalize splC 32 z.cps.toList = ws at h
    match ws, h with
    | [], h => cases h
    | [_], h => cases h
    | [a, w], h =>
      have h : (if kindsG.contains (tx a) = true then (placeP w).map fun p => (tx a, p, false) else none) = some (k, p, e) := h
      split at h
      · rw [Option.map_eq_some_iff] at h
        obtain ⟨p', h1, h2⟩ := h
        injection h2 with h2 h3
        injection h3 with h3 h4
        rw [← h3]
        exact pk h1
      · cases h
    | [a, w, q], h =>
      have h : (if statesG.contains (tx a) = true ∧ tx q = "end" then (placeP w).map fun p => (tx a, p, true) else none) = some (k, p, e) := h
      split at h
      · rw [Option.map_eq_some_iff] at h
        obtain ⟨p', h1, h2⟩ := h
        injection h2 with h2 h3
        injection h3 with h3 h4
        rw [← h3]
        exact pk h1
      · cases h
    | _ :: _ :: _ :: _ :: _, h => cases h
end L2.G42

set_option Elab.async false
set_option linter.all false
set_option maxRecDepth 100000
set_option maxHeartbeats 4000000
set_option pp.maxSteps 500
namespace K71
open PySem L2 L2.G42
open Evl (pss_cut)
open PyProof.Rows (boot_isinstance boot_int boot_bool boot_list boot_set boot_abs boot_enumerate boot_tuple)
abbrev sPlOf : Stmt := top 10
abbrev NPlOf : List Str := ["text", "parts", "keys", "part", "key"]
theorem scPlOf : FnScope NPlOf ["text"] (defScope sPlOf) := ⟨rfl, rfl, rfl, by decide +kernel, rfl, by decide +kernel, by decide +kernel⟩
/-- place_of -/
def spPlOf : Sp := fun vs H Q _ => ∃ z : Str, vs = [.str z] ∧ z.length ≤ 1000 ∧ (placeP z.cps.toList = none → ∀ H' : Hp, But (fun _ => False) H H' → Q .non H') ∧ ∀ p, placeP z.cps.toList = some p → ∀ (r : Addr) (H' : Hp), H r = none → H' r = some (.tup (p.map V.str)) → But (fun _ => False) H H' → Q (.ref r) H'
section
variable {P : Program} {w : World} {K : PySem.W.Frag} {mg : Str → Option Value} {base : Heap}
theorem ok_isKey {f : Addr} {fd : FuncData} (F : Fun K "is_key" "is_key" sIsKey f fd) (T : Bn mg) (N : KyN K mg) : FnOk P w K mg base CX0 1 f fd ["word"] spIsKey := by
  refine F.ok scIsKey (fun vs H Q E h => ?_) (fun cdv A outer s H vs Q E hr h => ?_)
  · obtain ⟨x, rfl, _⟩ := h
    rfl
  · obtain ⟨x, rfl, hx, k⟩ := h
    obtain ⟨tl, gl⟩ := N.letters
    obtain ⟨ra, gr, hres⟩ := N.res
    have hx' : x.length ≤ sizeLine := Nat.le_trans hx (by decide)
    refine ⟨_, (pss_cons (ps_if (PW.pt (pw_or (pt_not (pt_chain op_le op_le pe_int (pe_callB call_len_str (by rfl) T.len PySem.boot_len (pa_cons (pv 0) pa_nil)) pe_int)) (pw_or1 (pt_cmpR op_in_seq (pv 0) (pe_glob (v := .ref ra) rfl gr rfl) rfl))))
      (pss_one (ps_ret pe_bl))
      pss_nil)
      (pss_one (ps_ret (pe_callB (cr_all rfl) (by rfl) T.all boot_all (pa_cons (pe_lc (own := [("sign", 1)]) (g := gName 1) (tt := tYes) rfl scIsKey.nd (pi_str (pv 0)) (blkOk_by (own := [("sign", 1)]) (N := NIsKey) (sc := defScope sIsKey) (by decide +kernel))
    (fun _ _ _ _ _ => (pg_name (i := 1) scIsKey.nd rfl (.inl rfl))) (fun _ _ _ _ _ => pts_nil) (fun _ _ _ _ _ => (pe_cmpR op_in_sign (pv 1) (pe_glob (v := .str lettersS) rfl gl ⟨_, rfl⟩) rfl))) pa_nil))))), ?_⟩
    have bad : (decide (1 ≤ x.length) && decide (x.length ≤ 8)) = false → isKey x = false := fun h => by
      unfold isKey
      rw [h]
      rfl
    refine ⟨_, rfl, x, rfl, hx', _, _, rfl, rfl, _, rfl, ite2 (fun h1 => ?_) (fun h1 => ?_)⟩
    · have h1' : 1 ≤ x.length := by
        have := of_decide_eq_true h1
        omega
      refine ⟨_, _, rfl, rfl, _, rfl, ?_⟩
      by_cases h2 : (x.length : Int) ≤ 8
      · have h2' : x.length ≤ 8 := by omega
        rw [decide_eq_true h2]
        refine iteF ⟨_, rfl, ra, _, rfl, .inr (hres H), rfl, flat_strs _, _, rfl, ?_⟩
        show if inV (.str x) (reserved.map V.str) = true then _ else _
        rw [inV_str]
        cases hr : reserved.contains x with
        | true =>
          refine iteT ?_
          have e : isKey x = false := by
            unfold isKey
            rw [hr]
            simp
          rw [e] at k
          exact k H But.refl
        | false =>
          refine iteF ?_
          have e : isKey x = x.cps.toList.all letter := by
            unfold isKey
            rw [hr, decide_eq_true h1', decide_eq_true h2']
            rfl
          rw [e] at k
          refine ⟨_, rfl, x, rfl, fun D hD => lc_it walk_str (fun i H1 => H1 D = some (.lst (((x.cps.toList.take i).map letter).map V.bl)) ∧ But (fun _ => False) H H1) ⟨upd_same, But.new hD⟩ (fun _ _ _ _ => trivial) (fun i v H1 H2 hi q hy => ?_) (fun H1 q => ?_)⟩
          · obtain ⟨rfl, c, hc, rfl⟩ := hy
            have hc' : x.cps.toList[i]? = some c := by
              rw [← hc]
              exact Array.getElem?_toList
            refine ⟨rfl, _, rfl, c, _, rfl, rfl, ?_⟩
            rw [letters_mem]
            refine ⟨_, q.1, ?_, ?_, q.2.fresh hD⟩
            · have hxs : x.cps.size = x.length := rfl
              simp only [List.length_map, List.length_take]
              exact szl (by omega)
            · rw [upd_same, List.take_add_one, hc', List.map_append, List.map_append]
              rfl
          · have e2 : x.cps.toList.take x.cps.size = x.cps.toList := by
              rw [← Array.length_toList]
              exact List.take_length
            rw [e2] at q
            refine ⟨D, _, rfl, SqL.of q.1, ?_⟩
            have e3 : (x.cps.toList.map letter).all id = x.cps.toList.all letter := by rw [List.all_map]; rfl
            rw [e3]
            exact k H1 q.2
      · rw [decide_eq_false h2]
        refine iteT ?_
        have e := bad (by rw [decide_eq_false (fun q : x.length ≤ 8 => h2 (by omega)), Bool.and_false])
        rw [e] at k
        exact k H But.refl
    · refine ⟨_, rfl, iteT ?_⟩
      have e := bad (by rw [decide_eq_false (fun q : 1 ≤ x.length => h1 (decide_eq_true (by omega))), Bool.false_and])
      rw [e] at k
      exact k H But.refl
theorem splC_len (s : Nat) : ∀ l : List Nat, (splC s l).length ≤ l.length + 1
  | [] => Nat.le_refl _
  | c :: r => by
    have ih := splC_len s r
    obtain ⟨p, t, e⟩ := splC_ex s r
    by_cases h : c = s
    · subst h
      rw [splC_hit, List.length_cons, List.length_cons]
      omega
    · rw [splC_miss h e]
      rw [e] at ih
      rw [List.length_cons] at ih ⊢
      rw [List.length_cons]
      omega
theorem splC_short (s : Nat) : ∀ (l : List Nat), ∀ p ∈ splC s l, p.length ≤ l.length
  | [], p, hp => by
    have : p = [] := by simpa [splC] using hp
    rw [this]
    exact Nat.le_refl _
  | c :: r, p, hp => by
    have ih := splC_short s r
    obtain ⟨q, t, e⟩ := splC_ex s r
    by_cases h : c = s
    · subst h
      rw [splC_hit] at hp
      rcases List.mem_cons.mp hp with z | z
      · rw [z]; exact Nat.zero_le _
      · exact Nat.le_succ_of_le (ih p z)
    · rw [splC_miss h e] at hp
      rw [e] at ih
      rcases List.mem_cons.mp hp with z | z
      · rw [z, List.length_cons, List.length_cons]
        exact Nat.succ_le_succ (ih q List.mem_cons_self)
      · exact Nat.le_succ_of_le (ih p (List.mem_cons_of_mem _ z))
theorem cut_last (l : List Nat) : cutS (tx l) none (some (-1)) = tx l.dropLast := by
  apply str_ext
  rw [tx_cps]
  have el : (tx l).length = l.length := tx_len l
  show (((tx l).cps.toList.drop (HT.sIx (tx l).length 0 none)).take (HT.sIx (tx l).length (tx l).length (some (-1)) - HT.sIx (tx l).length 0 none)).toArray.toList = _
  rw [tx_cps, el]
  unfold HT.sIx
  simp
  rw [List.dropLast_eq_take]
  congr 1
  omega
theorem ok_plOf {f : Addr} {fd : FuncData} (F : Fun K "place_of" "place_of" sPlOf f fd) (T : Bn mg) (cKey : Cl P w K mg base 1 "is_key" spIsKey []) : FnOk P w K mg base CX0 2 f fd ["text"] spPlOf := by
  refine F.ok scPlOf (fun vs H Q E h => ?_) (fun cdv A outer s H vs Q E hr h => ?_)
  · obtain ⟨z, rfl, _⟩ := h
    rfl
  · obtain ⟨z, rfl, hz, kN, kS⟩ := h
    refine ⟨_, (pss_cons (ps_set (i := 1) scPlOf.nd rfl (.inl rfl) (pe_split (pv 0) pe_str))
      (pss_cut (ps_if (pt_cmpR op_ne (pe_ix ix_list (pv 1) pe_int (fun _ _ => rfl)) pe_str (nomark _)) (pss_one (ps_ret pe_non)) pss_nil)
      (pss_cut (ps_set (i := 2) scPlOf.nd rfl (.inl rfl) (pe_lst pa_nil))
      (pss_cons (ps_for PassesOwn.never rfl (pi_list (pe_slice sl_list (pv 1) (po_some pe_int) po_none)) (pg_name (i := 3) scPlOf.nd rfl (.inl rfl))
        (pss_cons (ps_set (i := 4) scPlOf.nd rfl (.inl rfl) (pe_slice sl_str (pv 3) po_none (po_some (pe_un un_neg pe_int))))
        (pss_cut (ps_if (PW.pt (pw_or (pt_not (pt_val (pe_m1 PySem.F.slot_str_endswith PySem.F.type_str_endswith mt_endswith (pv 3) pe_str))) (pw_or1 (pt_not (pt_val (pe_c cKey hr (by decide) rfl (pa_cons (pv 4) pa_nil))))))) (pss_one (ps_ret pe_non)) pss_nil)
        (pss_one (ps_expr (pe_bm PySem.F.plainAttrs_list PySem.F.slot_list_append PySem.F.type_list_append mt_append (pv 2) (pa_cons (pv 4) pa_nil)))))))
      (pss_one (ps_ret (pe_callTy call_tuple_of (by rfl) T.tuple boot_tuple (pa_cons (pv 2) pa_nil)))))))), ?_⟩
    obtain ⟨h, t, e⟩ := splC_ex 91 z.cps.toList
    have es : Txt.split z "[" = (splC 91 z.cps.toList).map tx := by
      rw [show Str.ofString "[" = tx [91] by decide +kernel]
      exact split_one z (by decide)
    have hpl : placeP z.cps.toList = if h = rootL then parseP t else none := by
      unfold placeP
      rw [e]
    refine ⟨_, rfl, ⟨_, rfl⟩, z, _, rfl, rfl, by decide +kernel, Nat.le_trans (Nat.add_le_add_right hz 2) (by decide), fun P1 hP1 => ?_⟩
    have g1 : But (fun _ => False) H (upd H P1 (.lst ((Txt.split z "[").map V.str))) := But.new hP1
    have e1 : (upd H P1 (.lst ((Txt.split z "[").map V.str))) P1 = some (.lst (((h :: t).map tx).map V.str)) := by rw [upd_same, es, e]
    have hlz : z.cps.toList.length = z.length := by show _ = z.cps.size; simp
    have tb : t.length ≤ 1000 := by
      have := splC_len 91 z.cps.toList
      rw [e, List.length_cons] at this
      omega
    have qb : ∀ q ∈ t, q.length ≤ 1000 := fun q hq => by
      have := splC_short 91 z.cps.toList q (by rw [e]; exact List.mem_cons_of_mem _ hq)
      omega
    show ∃ M, _
    generalize upd H P1 (.lst ((Txt.split z "[").map V.str)) = H1 at g1 e1 ⊢
    have hroot : (tx h = "root") ↔ h = rootL := by
      constructor
      · intro q
        have := congrArg (fun x : Str => x.cps.toList) q
        have : (tx h).cps.toList = (Str.ofString "root").cps.toList := this
        rw [tx_cps] at this
        rw [this]
        decide +kernel
      · intro q
        rw [q]
        decide +kernel
    refine ⟨fun σ H2 => σ = [some (.str z), some (.ref P1), none, none, none] ∧ H2 = H1 ∧ h = rootL, ?_, ?_⟩
    · refine ⟨_, rfl, P1, _, _, _, rfl, rfl, SqL.of e1, atI_nat (j := 0) rfl, rfl, _, rfl, ?_⟩
      by_cases hr0 : h = rootL
      · rw [decide_eq_true (show V.str (tx h) = V.str "root" by rw [hroot.mpr hr0])]
        exact iteF ⟨rfl, rfl, hr0⟩
      · rw [decide_eq_false (show ¬ V.str (tx h) = V.str "root" from fun q => hr0 (hroot.mp (by injection q)))]
        rw [if_neg hr0] at hpl
        exact iteT (kN hpl H1 g1)
    rintro σ H2 ⟨rfl, e2, hr0⟩
    cases e2
    rw [if_pos hr0] at hpl
    refine ⟨fun σ H2 => ∃ F, σ = [some (.str z), some (.ref P1), some (.ref F), none, none] ∧ H2 F = some (.lst []) ∧ H F = none ∧ H2 P1 = some (.lst (((h :: t).map tx).map V.str)) ∧ But (fun _ => False) H H2, ⟨szle (by simp), fun F hF => ⟨F, rfl, upd_same, g1.free hF, (But.new (S := fun _ => False) hF) _ _ e1 id, g1.trans (But.new hF)⟩⟩, ?_⟩
    rintro σ H2 ⟨F, rfl, hF, nF, hP2, g2⟩
    refine ⟨_, rfl, _, rfl, Exists.intro P1 (Exists.intro _ (And.intro rfl (And.intro (SqL.of hP2) (fun P3 hP3 => ?_))))⟩
    have e3 : cutV (((h :: t).map tx).map V.str) (some 1) none = (t.map tx).map V.str := by
      unfold cutV HT.sIx
      simp
      exact List.take_of_length_le (by simp)
    rw [e3]
    have g3 : But (fun _ => False) H2 (upd H2 P3 (.lst ((t.map tx).map V.str))) := But.new hP3
    have hP3' : (upd H2 P3 (.lst ((t.map tx).map V.str))) P3 = some (.lst ((t.map tx).map V.str)) := upd_same
    have hF3 := g3 _ _ hF id
    have gg3 := g2.trans g3
    have nFP : P3 ≠ F := (ne_of_none hF hP3).symm
    generalize upd H2 P3 (.lst ((t.map tx).map V.str)) = H3 at g3 hP3' hF3 gg3 ⊢
    refine ⟨P3, rfl, ⟨_, SqL.of hP3'⟩, for_list (xs := (t.map tx).map V.str) (fun i σ H4 => ∃ (ks : List Str) (x3 x4 : Option V), σ = [some (.str z), some (.ref P1), some (.ref F), x3, x4] ∧ H4 F = some (.lst (ks.map V.str)) ∧ H4 P3 = some (.lst ((t.map tx).map V.str)) ∧ ks.length = i ∧ But (fun _ => False) H H4 ∧ parseP t = (parseP (t.drop i)).map (ks ++ ·))
      ⟨[], none, none, rfl, hF3, hP3', rfl, gg3, by simp⟩ (fun i σ H4 _ h => ?_) ?_ ?_⟩
    · obtain ⟨_, _, _, _, _, h, _⟩ := h
      exact SqL.of h
    · rintro i x σ H4 hx ⟨ks, x3, x4, rfl, h1, h2, h3, g4, hp⟩
      rw [List.getElem?_map, List.getElem?_map, Option.map_map, Option.map_eq_some_iff] at hx
      obtain ⟨q, eq, rfl⟩ := hx
      have hi : i < t.length := by
        rcases Nat.lt_or_ge i t.length with y | y
        · exact y
        · rw [List.getElem?_eq_none y] at eq; cases eq
      have ed : t.drop i = q :: t.drop (i + 1) := by
        rw [List.drop_eq_getElem_cons hi]
        congr 1
        rw [List.getElem?_eq_getElem hi] at eq
        injection eq
      have ql := qb q (List.mem_of_getElem? eq)
      rw [ed, parseP] at hp
      refine ⟨_, rfl, _, rfl, _, rfl, tx q, rfl, szle (by rw [tx_len]; omega), ?_⟩
      rw [cut_last]
      refine ⟨fun σ H5 => σ = [some (.str z), some (.ref P1), some (.ref F), some (.str (tx q)), some (.str (tx q.dropLast))] ∧ But (fun _ => False) H4 H5 ∧ keyPart q = some (tx q.dropLast), ?_, ?_⟩
      · refine ⟨_, rfl, ⟨_, rfl⟩, tx q, _, rfl, rfl, _, rfl, ?_⟩
        rw [ends_close, tx_cps]
        by_cases c1 : q.getLast? = some 93
        · rw [decide_eq_true c1]
          refine iteF ⟨_, rfl, tx q.dropLast, rfl, by rw [tx_len, List.length_dropLast]; omega, fun H5 g5 => ⟨_, rfl, ?_⟩⟩
          cases c2 : isKey (tx q.dropLast) with
          | true =>
            refine iteF ⟨rfl, g5, ?_⟩
            unfold G42.keyPart
            rw [if_pos ⟨c1, c2⟩]
          | false =>
            have kp : keyPart q = none := by
              unfold G42.keyPart
              rw [if_neg (fun y => by rw [c2] at y; cases y.2)]
            rw [kp] at hp
            exact iteT (kN (by rw [hpl, hp]; rfl) H5 (g4.trans g5))
        · rw [decide_eq_false c1]
          have kp : keyPart q = none := by
            unfold G42.keyPart
            rw [if_neg (fun y => c1 y.1)]
          rw [kp] at hp
          exact iteT (iteT (kN (by rw [hpl, hp]; rfl) H4 g4))
      rintro σ H5 ⟨rfl, g5, kp⟩
      rw [kp] at hp
      have h15 := g5 _ _ h1 id
      refine ⟨_, rfl, .inl ⟨rfl, _, SqL.of h15⟩, _, rfl, F, _, _, rfl, rfl, h15, szl (by rw [List.length_map]; omega), ks ++ [tx q.dropLast], _, _, rfl, ?_, ?_, ?_, (g4.trans g5).fresh nF, ?_⟩
      · rw [upd_same, List.map_append]
        rfl
      · rw [upd_ne nFP]
        exact g5 _ _ h2 id
      · rw [List.length_append, h3]
        rfl
      · rw [hp]
        cases parseP (t.drop (i + 1)) with
        | none => rfl
        | some ys =>
          show some (ks ++ (tx q.dropLast :: ys)) = some (ks ++ [tx q.dropLast] ++ ys)
          rw [List.append_assoc]
          rfl
    · rintro σ H4 ⟨ks, x3, x4, rfl, h1, h2, h3, g4, hp⟩
      rw [List.length_map, List.length_map, List.drop_length] at hp
      have hp : parseP t = some ks := by
        rw [hp]
        show some (ks ++ []) = some ks
        rw [List.append_nil]
      refine ⟨_, rfl, F, _, rfl, .inl ⟨SqL.of h1, fun r hr => ?_⟩⟩
      exact kS ks (by rw [hpl, hp]) r _ (g4.free hr) upd_same (g4.trans (But.new hr))
end
end K71

set_option Elab.async false
set_option linter.all false
set_option maxRecDepth 100000
set_option maxHeartbeats 4000000
set_option pp.maxSteps 500
namespace K71
open PySem L2 L2.G42
open Evl (pss_cut)
open PyProof.Rows (boot_isinstance boot_int boot_bool boot_list boot_set boot_abs boot_enumerate boot_tuple)
abbrev sPlT : Stmt := top 7
abbrev NPlT : List Str := ["place", "key"]
theorem scPlT : FnScope NPlT ["place"] (defScope sPlT) := ⟨rfl, rfl, rfl, by decide +kernel, rfl, by decide +kernel, by decide +kernel⟩
/-- place_text -/
def spPlT (K : PySem.W.Frag) : Sp := fun vs H Q _ => ∃ (c : Addr) (p : List Str), vs = [.ref c] ∧ SqT K H c (p.map V.str) ∧ p.length ≤ 100 ∧ (∀ k ∈ p, k.length ≤ 8) ∧ ∀ H' : Hp, But (fun _ => False) H H' → Q (.str (tx (placeT p))) H'
/-- [key] -/
def brk (x : Str) : Str := Str.ofString "[" ++ x ++ Str.ofString "]"
theorem brk_tl (x : Str) : (brk x).cps.toList = 91 :: (x.cps.toList ++ [93]) := by
  unfold brk
  show ((Str.ofString "[").cps ++ x.cps ++ (Str.ofString "]").cps).toList = _
  rw [Array.toList_append, Array.toList_append, show (Str.ofString "[").cps.toList = [91] by decide +kernel, show (Str.ofString "]").cps.toList = [93] by decide +kernel]
  simp
theorem brk_len (x : Str) : (brk x).length = x.length + 2 := by
  have h : (brk x).cps.toList.length = (brk x).length := by show _ = (brk x).cps.size; simp
  have h2 : x.cps.toList.length = x.length := by show _ = x.cps.size; simp
  rw [← h, brk_tl, List.length_cons, List.length_append, h2]
  rfl
theorem brk_sum : ∀ p : List Str, (∀ k ∈ p, k.length ≤ 8) → ((p.map brk).map (·.length)).sum ≤ 10 * p.length
  | [], _ => Nat.le_refl _
  | k :: p, h => by
    have ih := brk_sum p fun x hx => h x (List.mem_cons_of_mem _ hx)
    have := h k List.mem_cons_self
    rw [List.map_cons, List.map_cons, List.sum_cons, brk_len, List.length_cons]
    omega
theorem joinL_nil : ∀ l : List (List Nat), TL.joinL [] l = l.flatten
  | [] => rfl
  | [p] => by simp [TL.joinL]
  | p :: q :: r => by
    have ih := joinL_nil (q :: r)
    show p ++ ([] ++ TL.joinL [] (q :: r)) = _
    rw [ih]
    rfl
theorem join_brk (p : List Str) : (Txt.join (Str.ofString "") (p.map brk)).cps.toList = (p.map fun k => 91 :: (k.cps.toList ++ [93])).flatten := by
  rw [TL.join_eq]
  have := TL.tl_join (Str.ofString "") (p.map brk)
  have e0 : TL.tl (Str.ofString "") = [] := by decide +kernel
  rw [e0, joinL_nil, List.map_map] at this
  have e1 : TL.tl ∘ brk = fun k => 91 :: (k.cps.toList ++ [93]) := by
    funext k
    exact brk_tl k
  rw [e1] at this
  exact this
section
variable {P : Program} {w : World} {K : PySem.W.Frag} {mg : Str → Option Value} {base : Heap}
theorem ok_plT {f : Addr} {fd : FuncData} (F : Fun K "place_text" "place_text" sPlT f fd) (T : Bn mg) : FnOk P w K mg base CX0 1 f fd ["place"] (spPlT K) := by
  refine F.ok scPlT (fun vs H Q E h => ?_) (fun cdv A outer s H vs Q E hr h => ?_)
  · obtain ⟨c, p, rfl, _⟩ := h
    rfl
  · obtain ⟨c, p, rfl, hc, lp, l8, k⟩ := h
    refine ⟨_, (pss_one (ps_ret (pe_op op_add_str pe_str (pe_join pe_str (pe_lc (own := [("key", 1)]) (g := gName 1) (tt := tYes) rfl scPlT.nd (pi_tup (pv 0)) (blkOk_by (own := [("key", 1)]) (N := NPlT) (sc := defScope sPlT) (by decide +kernel)) (fun _ _ _ _ _ => (pg_name (i := 1) scPlT.nd rfl (.inl rfl))) (fun _ _ _ _ _ => pts_nil) (fun _ _ _ _ _ => (pe_op op_add_str (pe_op op_add_str pe_str (pv 1)) pe_str))))))), ?_⟩
    refine ⟨⟨_, rfl⟩, _, rfl, c, rfl, ⟨_, hc⟩, fun D hD => ?_⟩
    refine lc_it (walk_tup (xs := p.map V.str)) (fun i H1 => H1 D = some (.lst (((p.take i).map brk).map V.str)) ∧ But (fun _ => False) H H1) ⟨upd_same, But.new hD⟩ (fun i H1 _ h => SqT.grow hc h.2) (fun i v H1 H2 hi h y => ?_) (fun H1 h => ?_)
    · obtain ⟨rfl, hv⟩ := y
      rw [List.getElem?_map, Option.map_eq_some_iff] at hv
      obtain ⟨x, ex, rfl⟩ := hv
      have lx := l8 x (List.mem_of_getElem? ex)
      refine ⟨rfl, _, rfl, _, _, rfl, rfl, szle (by rw [show (Str.ofString "[").length = 1 by decide +kernel]; omega), _, _, rfl, rfl, szle ?_, _, h.1, szl (by rw [List.length_map, List.length_map, List.length_take]; omega), ?_, h.2.fresh hD⟩
      · rw [show (Str.ofString "]").length = 1 by decide +kernel]
        show ((Str.ofString "[").cps ++ x.cps).size + 1 ≤ _
        rw [Array.size_append]
        have : x.cps.size = x.length := rfl
        have : (Str.ofString "[").cps.size = 1 := by decide +kernel
        omega
      · rw [upd_same, List.take_add_one, ex, List.map_append, List.map_append]
        rfl
    · obtain ⟨h1, h2⟩ := h
      rw [List.length_map, List.take_length] at h1
      refine ⟨_, D, _, rfl, rfl, .inl (SqL.of h1), ?_, ?_⟩
      · have := brk_sum p l8
        rw [show (Str.ofString "").length = 0 by decide +kernel, Nat.mul_zero]
        omega
      · have ej : Str.ofString "root" ++ Txt.join (Str.ofString "") (p.map brk) = tx (placeT p) := by
          apply str_ext
          rw [tx_cps]
          show ((Str.ofString "root").cps ++ (Txt.join (Str.ofString "") (p.map brk)).cps).toList = _
          rw [Array.toList_append, join_brk, show (Str.ofString "root").cps.toList = rootL by decide +kernel]
          rfl
        have lj : (Txt.join (Str.ofString "") (p.map brk)).length ≤ 1000 := by
          have h : (Txt.join (Str.ofString "") (p.map brk)).cps.toList.length = (Txt.join (Str.ofString "") (p.map brk)).length := by show _ = (Txt.join (Str.ofString "") (p.map brk)).cps.size; simp
          rw [← h, join_brk, List.length_flatten, List.map_map]
          have e2 : (List.length ∘ fun k : Str => 91 :: (k.cps.toList ++ [93])) = (fun x => x.length) ∘ brk := by
            funext x
            have hb : (brk x).cps.toList.length = (brk x).length := by show _ = (brk x).cps.size; simp
            show (91 :: (x.cps.toList ++ [93])).length = (brk x).length
            rw [← hb, brk_tl]
          rw [e2, ← List.map_map]
          have := brk_sum p l8
          omega
        refine ⟨_, _, rfl, rfl, szle (by rw [show (Str.ofString "root").length = 4 by decide +kernel]; omega), ?_⟩
        rw [ej]
        exact k H1 h2
end
end K71

set_option Elab.async false
set_option linter.all false
set_option maxRecDepth 100000
set_option maxHeartbeats 4000000
/-! c(e, .., k = v, ..), c a local that holds the class -/
namespace L2.G42
open PySem PySem.Spec PyProof.Rows
/-- a class made by values and by keywords named ks -/
structure NwN (P : Program) (w : World) (K : PySem.W.Frag) (mg : Str → Option Value) (base : Heap) (k : Nat) (C : Addr) (n : Nat) (ks : List Str) (sp : Sp) (gV : List V → List V → List V) : Prop where
  ex : ∃ (f : Addr) (fd : FuncData) (ps : List Str) (g : List Value → List Value → List Value), Mk K C f ∧ FnOk P w K mg base CX0 k f fd ps sp ∧ KBn K fd ps (n + 1) ks g gV
def tMakeNV (i : Nat) (C : Addr) (n m : Nat) (sp : Sp) (gV : List V → List V → List V) (t tk : TA) : TE := fun σ H Q => σ[i]? = some (some (.ref C)) ∧ tMakeN C n m sp gV E0 t tk σ H Q
section
variable {X : Cx} {k j i n : Nat} {C : Addr} {x : Str} {sp : Sp} {ks : List Str} {gV : List V → List V → List V} {p pos : Pos} {e : Expr} {es : List Expr} {kws : List Keyword} {t tk : TA}
theorem pe_mkNV (c : NwN X.prog X.w X.K X.mg X.base k C n ks sp gV) (hr : Room j X.A) (hk : k + 1 ≤ j) (hN : X.N[i]? = some x) (hv : Vis X.env.scope x) (ha : PA X (e :: es) t) (hkw : PK X kws tk)
    (hall : (backToKw pos (keywordEach kws X.env)).all (·.1.isSome) = true := by rfl) (hks : (backToKw pos (keywordEach kws X.env)).filterMap (·.1) = ks := by rfl) (hdb : (x == ("__debug__" : Str)) = false := by decide) (hcd : (x == ("__classdict__" : Str)) = false := by decide)
    (he : starEach (e :: es) X.env = (false, eval e X.env) :: starEach es X.env := by rfl) (hpl : ((backTo pos (starEach (e :: es) X.env)).any (·.1) || (backToKw pos (keywordEach kws X.env)).any (·.1.isNone)) = false := by rfl) :
    PE X (.Call (.Name x p) (e :: es) kws pos) (tMakeNV i C n ks.length sp gV t tk) := by
  obtain ⟨f, fd, ps, g, M, F, hb⟩ := c.ex
  refine ⟨fun pins s σ H Q I h => ?_⟩
  obtain ⟨hs, ht⟩ := h
  refine wpAny_Call_Name_kw (thn ((pe_var (pos := p) hN hv hdb hcd).run pins s σ H (fun v H1 => v = .ref C ∧ H1 = H) I ⟨.ref C, hs, rfl, rfl⟩) fun u s1 ⟨v, H1, I1, r1, q1⟩ => ?_)
  obtain ⟨rfl, rfl⟩ := q1
  cases r1
  refine PySem.W.callWith_KW (h₀ := X.base) I.ok.mod.kin M.kp hall (thn (ha.run pos pins s1 σ _ _ I1 ht) fun us s2 ⟨vs, H2, I2, r, q⟩ => ?_) hpl he
  refine thn (hkw.run pos pins s2 σ H2 _ I2 q) fun ws s3 ⟨zs, H3, I3, rz, l1, l2, q2⟩ => ⟨I3.kIn, ?_⟩
  rw [hks]
  exact run_makeN M F (hr.mono hk) hb (fun _ _ _ _ _ _ _ h => h.elim) I3 r rz l1 l2 q2
end
end L2.G42

set_option Elab.async false
set_option linter.all false
set_option maxRecDepth 100000
set_option maxHeartbeats 4000000
set_option pp.maxSteps 500
namespace K71
open PySem L2 L2.G42
open Evl (pss_cut)
open PyProof.Rows (boot_isinstance boot_int boot_bool boot_list boot_set boot_abs boot_enumerate boot_tuple)
abbrev sBadG : Stmt := inClass (top 2) 0
abbrev sGInit : Stmt := inClass (top 9) 2
theorem scBadG : FnScope ["self", "goal"] ["self", "goal"] (defScope sBadG) := ⟨rfl, rfl, rfl, by decide +kernel, rfl, by decide +kernel, by decide +kernel⟩
theorem scGInit : FnScope ["self", "kind", "place", "at_end"] ["self", "kind", "place", "at_end"] (defScope sGInit) := ⟨rfl, rfl, rfl, by decide +kernel, rfl, by decide +kernel, by decide +kernel⟩
/-- what the written part says of Goal's attributes -/
structure GlC (K : PySem.W.Frag) (G : Addr) : Prop where
  cl : Cls K G
  n0 : NoAttr K G "kind"
  n1 : NoAttr K G "place"
  n2 : NoAttr K G "at_end"
def gfs (k p e : V) : List (Str × V) := [("kind", k), ("place", p), ("at_end", e)]
def spGInit (G : Addr) : Sp := fun vs H Q _ => ∃ (g dx : Addr) (k p e : V), vs = [.ref g, k, p, e] ∧ H g = some (.ins G dx []) ∧ Q .non (upd H g (.ins G dx (gfs k p e)))
section
variable {P : Program} {w : World} {K : PySem.W.Frag} {mg : Str → Option Value} {base : Heap} {G B : Addr} {dvs : List V} {kws : List (Str × V)}
theorem ok_badG {f : Addr} {fd : FuncData} (F : Fun K "__init__" "BadGoal.__init__" sBadG f fd) (O : OexC K B) (no : PySem.W.findIn K (.ref B) "goal" = some none) : FnOk P w K mg base CX0 1 f fd ["self", "goal"] (spErr B "goal") := by
  refine F.ok scBadG (fun vs H Q E h => ?_) (fun cdv A outer s H vs Q E hr h => ?_)
  · obtain ⟨a, x, rfl, _⟩ := h
    rfl
  · obtain ⟨a, x, rfl, ha, k⟩ := h
    exact ⟨_, pss_one (ps_ost (pv 0) (pv 1)), _, rfl, _, rfl, a, B, rfl, O, no, .inl ⟨ha, fun d hd ne => k d hd ne⟩⟩
theorem ok_ginit {f : Addr} {fd : FuncData} (F : FunD K "__init__" "Goal.__init__" (defArgs sGInit) (defBody sGInit) (defScope sGInit) dvs kws f fd) (Gc : GlC K G) : FnOk P w K mg base CX0 1 f fd ["self", "kind", "place", "at_end"] (spGInit G) := by
  refine F.ok scGInit (fun vs H Q E h => ?_) (fun cdv A outer s H vs Q E hr h => ?_)
  · obtain ⟨g, dx, k, p, e, rfl, _⟩ := h
    rfl
  · obtain ⟨g, dx, k, p, e, rfl, hg, q⟩ := h
    refine ⟨_, (pss_cons (ps_fld (pv 0) (pv 1) rfl) (pss_cons (ps_fld (pv 0) (pv 2) rfl) (pss_one (ps_fld (pv 0) (pv 3) rfl)))), ?_⟩
    refine ⟨_, rfl, _, rfl, g, G, dx, [], rfl, hg, Gc.cl, Gc.n0, (by show 0 < 1000; decide), ?_⟩
    refine ⟨_, rfl, _, rfl, g, G, dx, _, rfl, upd_same, Gc.cl, Gc.n1, (by show 1 < 1000; decide), ?_⟩
    refine ⟨_, rfl, _, rfl, g, G, dx, _, rfl, upd_same, Gc.cl, Gc.n2, (by show 2 < 1000; decide), ?_⟩
    rw [upd_twice, upd_twice]
    exact q
end
end K71

set_option Elab.async false
set_option linter.all false
set_option maxRecDepth 100000
set_option maxHeartbeats 4000000
set_option pp.maxSteps 500
namespace K71
open PySem L2 L2.G42
open Evl (pss_cut)
abbrev sGStr : Stmt := inClass (top 9) 4
theorem scGStr : FnScope ["self", "end"] ["self"] (defScope sGStr) := ⟨rfl, rfl, rfl, by decide +kernel, rfl, by decide +kernel, by decide +kernel⟩
/-- a goal in the heap -/
structure GlAt (K : PySem.W.Frag) (G : Addr) (H : Hp) (g c : Addr) (k : Str) (p : List Str) (e : Bool) : Prop where
  ob : ∃ dx, H g = some (.ins G dx (gfs (.str k) (.ref c) (.bl e)))
  pl : SqT K H c (p.map V.str)
  lp : p.length ≤ 100
  l8 : ∀ x ∈ p, x.length ≤ 8
  lk : k.length ≤ 1000
theorem GlAt.grow {K : PySem.W.Frag} {G : Addr} {H H' : Hp} {g c : Addr} {k : Str} {p : List Str} {e : Bool} (h : GlAt K G H g c k p e) (b : But (fun _ => False) H H') : GlAt K G H' g c k p e := let ⟨dx, o⟩ := h.ob; ⟨⟨dx, b _ _ o id⟩, SqT.grow h.pl b, h.lp, h.l8, h.lk⟩
def spGStr (K : PySem.W.Frag) (G : Addr) : Sp := fun vs H Q _ => ∃ (g c : Addr) (k : Str) (p : List Str) (e : Bool), vs = [.ref g] ∧ GlAt K G H g c k p e ∧ ∀ H' : Hp, But (fun _ => False) H H' → Q (.str (goalT k p e)) H'
section
variable {P : Program} {w : World} {K : PySem.W.Frag} {mg : Str → Option Value} {base : Heap} {G : Addr}
theorem ok_gstr {f : Addr} {fd : FuncData} (F : Fun K "__str__" "Goal.__str__" sGStr f fd) (Gc : GlC K G) (cPlT : Cl P w K mg base 1 "place_text" (spPlT K) []) : FnOk P w K mg base CX0 2 f fd ["self"] (spGStr K G) := by
  refine F.ok scGStr (fun vs H Q E h => ?_) (fun cdv A outer s H vs Q E hr h => ?_)
  · obtain ⟨g, c, k, p, e, rfl, _⟩ := h
    rfl
  · obtain ⟨g, c, k, p, e, rfl, ga, kk⟩ := h
    refine ⟨_, (pss_cut (ps_if (pt_cmpR op_eq (pe_fld (pv 0) rfl) pe_str (nomark _)) (pss_one (ps_ret pe_str)) pss_nil)
      (pss_cut (ps_set (i := 1) scGStr.nd rfl (.inl rfl) (pe_ifExp (pt_val (pe_fld (pv 0) rfl)) pe_str pe_str))
      (pss_one (ps_ret (pe_joined (PJ.cons (pe_fmt (pe_fld (pv 0) rfl)) (PJ.cons pe_str (PJ.cons (pe_fmt (pe_c cPlT hr (by decide) rfl (pa_cons (pe_fld (pv 0) rfl) pa_nil))) (PJ.cons (pe_fmt (pv 1)) PJ.nil))))))))), ?_⟩
    obtain ⟨dx, ob⟩ := ga.ob
    have lk := ga.lk
    refine ⟨fun σ H1 => σ = [some (.ref g), none] ∧ H1 = H ∧ k ≠ "shown", ?_, ?_⟩
    · refine ⟨_, rfl, g, G, dx, _, _, rfl, ob, Gc.cl, Gc.n0, rfl, rfl, _, rfl, ?_⟩
      by_cases hk : k = "shown"
      · rw [decide_eq_true (show V.str k = V.str "shown" by rw [hk])]
        have := kk H But.refl
        unfold goalT at this
        rw [if_pos hk] at this
        exact iteT this
      · rw [decide_eq_false (show ¬ V.str k = V.str "shown" from fun q => hk (by injection q))]
        exact iteF ⟨rfl, rfl, hk⟩
    rintro σ H1 ⟨rfl, e1, hk⟩
    cases e1
    refine ⟨fun σ H1 => σ = [some (.ref g), some (.str (tx (if e = true then 32 :: [101, 110, 100] else [])))] ∧ H1 = H, ?_, ?_⟩
    · refine ⟨_, rfl, g, G, dx, _, _, rfl, ob, Gc.cl, Gc.n2, rfl, _, rfl, ?_⟩
      cases e with
      | true =>
        refine iteT ⟨?_, rfl⟩
        rw [if_pos rfl, show tx (32 :: [101, 110, 100]) = Str.ofString " end" by decide +kernel]
        rfl
      | false =>
        refine iteF ⟨?_, rfl⟩
        rw [if_neg Bool.false_ne_true, show tx [] = Str.ofString "" by decide +kernel]
        rfl
    rintro σ H1 ⟨rfl, e1⟩
    cases e1
    refine ⟨_, rfl, g, G, dx, _, _, rfl, ob, Gc.cl, Gc.n0, rfl, .inl ⟨_, rfl, szle (by omega), ?_⟩⟩
    have slen : ∀ a b : Str, (a ++ b).length = a.length + b.length := fun a b => by
      show (a.cps ++ b.cps).size = _
      rw [Array.size_append]
      rfl
    have e0 : Str.empty.length = 0 := rfl
    have e1 : (Str.ofString " ").length = 1 := by decide +kernel
    have ep : (tx (placeT p)).length ≤ 2000 := by
      rw [tx_len]
      unfold placeT
      have : ∀ q : List Str, (∀ x ∈ q, x.length ≤ 8) → ((q.map fun k => 91 :: (k.cps.toList ++ [93])).flatten).length ≤ 10 * q.length := by
        intro q
        induction q with
        | nil => intro _; simp
        | cons x q ih =>
          intro hq
          have h1 := ih fun y hy => hq y (List.mem_cons_of_mem _ hy)
          have h2 := hq x List.mem_cons_self
          have h3 : x.cps.toList.length = x.length := by show _ = x.cps.size; simp
          rw [List.map_cons, List.flatten_cons, List.length_append, List.length_cons, List.length_append, List.length_cons, h3, List.length_nil, List.length_cons]
          omega
      have h4 := this p ga.l8
      have h5 := ga.lp
      rw [List.length_append, show rootL.length = 4 from rfl]
      omega
    have ee : (tx (if e = true then 32 :: [101, 110, 100] else [])).length ≤ 4 := by
      rw [tx_len]
      cases e <;> simp
    refine ⟨_, rfl, szle ?_, _, rfl, szle ?_, _, rfl, g, G, dx, _, _, rfl, ob, Gc.cl, Gc.n1, rfl, c, p, rfl, ga.pl, ga.lp, ga.l8, fun H2 g2 => .inl ⟨_, rfl, szle (by omega), _, rfl, szle ?_, _, rfl, .inl ⟨_, rfl, szle (by omega), _, rfl, szle ?_, ?_⟩⟩⟩
    · rw [slen]; omega
    · rw [slen, slen]; omega
    · rw [slen, slen, slen]; omega
    · rw [slen, slen, slen, slen]; omega
    · have ez : Str.empty ++ k ++ Str.ofString " " ++ tx (placeT p) ++ tx (if e = true then 32 :: [101, 110, 100] else []) = goalT k p e := by
        unfold goalT
        rw [if_neg hk]
        apply str_ext
        rw [tx_cps]
        show (Str.empty.cps ++ k.cps ++ (Str.ofString " ").cps ++ (tx (placeT p)).cps ++ (tx (if e = true then 32 :: [101, 110, 100] else [])).cps).toList = _
        rw [Array.toList_append, Array.toList_append, Array.toList_append, Array.toList_append, tx_cps, tx_cps, show (Str.ofString " ").cps.toList = [32] by decide +kernel, show Str.empty.cps.toList = [] from rfl]
        simp
      have kq := kk H2 g2
      rw [← ez] at kq
      exact kq
end
end K71

set_option Elab.async false
set_option linter.all false
set_option maxRecDepth 100000
set_option maxHeartbeats 4000000
namespace PySem
open Sem (wp)
section
variable {M : Model} {A : Around} {R : GenEnd} {Y : Protocol} {n : Nat} {s₀ : Shared} {c : Code} {fs : List Frame} {s : Shared} {env : Env}
  {K : Flow → Sem Fin} {H : Value → Sem Fin} {gd : Bool → Bool} {lv : List Value → List Value}
theorem seg_For {target iter : Expr} {body orelse : List Stmt} {pos : Pos} (hs : ∀ x, foldedSetIterable iter env x = pure x)
    (h : wpAny M (A.over c fs) (eval iter env) (fun x s1 => wpAny M (A.over c fs) (pyIter x) (fun it s2 => ∀ p, Seg M A R Y n s₀ (.forLoop target it body orelse env) (M.den (.forLoop target it body orelse env))
      (.ret (fun r => ((match r with | .ok f => (.pure f : Sem Flow) | .error e => .raise e).onRaise fun (x : Value) => do
        if (← field x 1) == Value.none then unsupported "frame.own-activation:exception-without-traceback"
        setFlight x env.frame).wrap K H gd lv) none (gd false) (lv []) c p [] :: fs) s2) (fun x s' => Seg M A R Y n s₀ c (H x) fs s') s1) (fun x s' => Seg M A R Y n s₀ c (H x) fs s') s) :
    Seg M A R Y n s₀ c ((exec (.For target iter body orelse pos) env).wrap K H gd lv) fs s := by
  rw [exec_For]
  refine seg_at ?_
  show Seg _ _ _ _ _ _ _ ((eval iter env >>= fun v => foldedSetIterable iter env v >>= fun x => standAt iter.pos >>= fun _ => holding [x] (pyIter x) >>= fun it => runOwn (.forLoop target it body orelse env) env).wrap K H gd lv) fs s
  rw [Sem.bind_eq_wrap', Sem.wrap_wrap]
  refine seg_wrap (wpAny_mono h (fun x s1 h1 => ?_) fun _ _ e => e)
  rw [hs x]
  refine seg_at ?_
  show Seg _ _ _ _ _ _ _ ((holding [x] (pyIter x) >>= fun it => runOwn (.forLoop target it body orelse env) env).wrap K H gd lv) fs s1
  rw [Sem.bind_eq_wrap', Sem.wrap_wrap]
  refine seg_wrap (wpAny_holding (wpAny_mono h1 (fun it s2 h2 => ?_) fun _ _ e => e))
  exact seg_call h2
end
section
variable {prog : Program} {w : World} {A : Around} {R : GenEnd} {Y : Protocol} {n : Nat} {s₀ : Shared} {fs : List Frame} {s : Shared} {env : Env}
theorem seg_forLoop {target : Expr} {it : Value} {body orelse : List Stmt}
    (h : wpAny (model prog w) (A.over (.forLoop target it body orelse env) fs) (pyNext it) (fun r s1 => match r with
        | none => Seg (model prog w) A R Y n s₀ (.forLoop target it body orelse env) (.pure (.again (.block orelse env))) fs s1
        | some v => wpAny (model prog w) (A.over (.forLoop target it body orelse env) fs) (letOwnedTupleGo target it v) (fun _ s2 => wpAny (model prog w) (A.over (.forLoop target it body orelse env) fs) (assign target env v) (fun _ s3 =>
          Seg (model prog w) A R Y n s₀ (.forLoop target it body orelse env) ((execs body env).wrap (fun f => match f with
            | .next | .cont => .pure (.again (.forLoop target it body orelse env))
            | .brk => .pure (.done .next)
            | .ret v => .pure (.done (.ret v))) (fun e => (do noteFrame e env; theTreesLotGoes e : Sem Unit).wrap (fun _ => .raise e) .raise id id) id id) fs s3)
          (fun x s' => Seg (model prog w) A R Y n s₀ (.forLoop target it body orelse env) ((do noteFrame x env; theTreesLotGoes x : Sem Unit).wrap (fun _ => .raise x) .raise id id) fs s') s2)
          (fun x s' => Seg (model prog w) A R Y n s₀ (.forLoop target it body orelse env) ((do noteFrame x env; theTreesLotGoes x : Sem Unit).wrap (fun _ => .raise x) .raise id id) fs s') s1)
      (fun x s' => Seg (model prog w) A R Y n s₀ (.forLoop target it body orelse env) ((do noteFrame x env; theTreesLotGoes x : Sem Unit).wrap (fun _ => .raise x) .raise id id) fs s') s) :
    Seg (model prog w) A R Y n s₀ (.forLoop target it body orelse env) ((model prog w).den (.forLoop target it body orelse env)) fs s := by
  show Seg _ A R Y n s₀ _ ((forTurn target it body orelse env).onRaise (fun x => do noteFrame x env; theTreesLotGoes x)) fs s
  have ee : ∀ x s', Seg (model prog w) A R Y n s₀ (.forLoop target it body orelse env) ((do noteFrame x env; theTreesLotGoes x : Sem Unit).wrap (fun _ => .raise x) .raise id id) fs s' → Seg (model prog w) A R Y n s₀ (.forLoop target it body orelse env) (((do noteFrame x env; theTreesLotGoes x : Sem Unit)).bind fun _ => .raise x) fs s' := fun x s' hx => by
    rw [Sem.bind_eq_wrap]; exact hx
  unfold forTurn
  rw [Sem.onRaise_eq_wrap]
  refine seg_at ?_
  show Seg _ _ _ _ _ _ _ (((pyNext it).onRaise (fun _ => standAt { target.pos with line := 0 }) >>= _).wrap _ _ _ _) _ _
  rw [Sem.bind_eq_wrap', Sem.wrap_wrap]
  refine seg_wrap (wpAny_onRaise (wpAny_mono h (fun r s1 h1 => ?_) fun x s' hx => wpAny_standAt (ee x s' hx)))
  cases r with
  | none => exact h1
  | some v =>
    show Seg _ _ _ _ _ _ _ ((letOwnedTupleGo target it v >>= fun _ => assign target env v >>= fun _ => execs body env >>= _).wrap _ _ _ _) _ _
    rw [Sem.bind_eq_wrap', Sem.wrap_wrap]
    refine seg_wrap (wpAny_mono h1 (fun _ s2 h2 => ?_) fun x s' hx => ee x s' hx)
    rw [Sem.bind_eq_wrap', Sem.wrap_wrap]
    refine seg_wrap (wpAny_mono h2 (fun _ s3 h3 => ?_) fun x s' hx => ee x s' hx)
    rw [Sem.bind_eq_wrap', Sem.wrap_wrap]
    rw [Sem.wrap_congr (execs body env) _ _ (K' := fun f => match f with
          | .next | .cont => .pure (.again (.forLoop target it body orelse env))
          | .brk => .pure (.done .next)
          | .ret v => .pure (.done (.ret v))) (H' := (fun e => (do noteFrame e env; theTreesLotGoes e : Sem Unit).wrap (fun _ => .raise e) .raise id id))
      (fun f => by cases f <;> rfl)
      (fun e => by first | exact Sem.bind_eq_wrap _ _ | (show (do noteFrame e env; theTreesLotGoes e : Sem Unit).bind (fun _ => .raise e) = _; rw [Sem.bind_eq_wrap]))]
    exact h3
end
end PySem
namespace L2
open PySem PySem.Spec PyProof.Rows GenW
section
variable {X : Cx} {st : Stmt} {rest : List Stmt}
def tGIf (c : TT) (t1 t2 : TGn) : TGn := fun D ys σ H => c σ H fun b H1 => if b = true then t1 D ys σ H1 else t2 D ys σ H1
theorem gs_if {test : Expr} {b1 b2 : List Stmt} {pos : Pos} {tc : TT} {t1 t2 : TGn} (hc : PT X test tc) (h1 : GSs X b1 t1) (h2 : GSs X b2 t2) : GS X (.If test b1 b2 pos) (tGIf tc t1 t2) := by
  refine ⟨fun A S ip R n ys s₀ c fs K J gd lv s σ H D g hn k hI ht => ?_⟩
  obtain ⟨acc, cc, r, I⟩ := hI
  refine seg_at ?_
  show Seg _ _ _ _ _ _ _ ((isTrue test X.env (eval test X.env) >>= fun b => if b = true then execs b1 X.env else execs b2 X.env).wrap K J gd lv) fs s
  rw [Sem.bind_eq_wrap', Sem.wrap_wrap]
  refine seg_wrap ?_
  rw [g.over]
  refine wpAny_mono (hc.run _ s σ H _ I ht) (fun b s' hb => ?_) fun x s' hx => k.exc n s₀ x s' hx
  obtain ⟨H2, I2, q2⟩ := hb
  cases b with
  | true => exact h1.run A S ip R n ys s₀ c fs K J gd lv s' σ H2 D g hn k ⟨acc, cc, r, I2⟩ q2
  | false => exact h2.run A S ip R n ys s₀ c fs K J gd lv s' σ H2 D g hn k ⟨acc, cc, r, I2⟩ q2
/-- the statement runs while the thing at d is locked -/
def tGLock (t : TGn) : TGn := fun D ys σ H => ∃ d u, H d = some u ∧ Mut (some u) ∧ ∀ od, t ⟨fun ys' σ' H' => H' d = some (.frz od u) ∧ D.nx ys' σ' (upd H' d u), fun ys' v H' => H' d = some (.frz od u) ∧ D.rt ys' v (upd H' d u), fun ys' σ' H' => H' d = some (.frz od u) ∧ D.bk ys' σ' (upd H' d u), fun ys' σ' H' => H' d = some (.frz od u) ∧ D.ct ys' σ' (upd H' d u)⟩ ys σ (upd H d (.frz od u))
theorem gs_lock {t : TGn} (h : GS X st t) : GS X st (tGLock t) := by
  refine ⟨fun A S ip R n ys s₀ c fs K J gd lv s σ H D g hn k hI ht => ?_⟩
  obtain ⟨acc, cc, r, I⟩ := hI
  obtain ⟨d, u, hd, mu, hw⟩ := ht
  obtain ⟨od, I1⟩ := I.lock hd mu
  have nf := I.nofrz hd mu
  refine h.run A S ip R n ys s₀ c fs K J gd lv s σ _ _ g hn ⟨fun n' ys' s₀' s' f hn' hs => k.ok n' ys' s₀' s' f hn' ?_, k.exc⟩ ⟨acc, cc, r, I1⟩ (hw od)
  cases f with
  | next => obtain ⟨σ', H', ⟨a2, c2, r2, I2⟩, e, q⟩ := hs; exact ⟨σ', _, ⟨a2, c2, r2, I2.unlock e nf⟩, q⟩
  | brk => obtain ⟨σ', H', ⟨a2, c2, r2, I2⟩, e, q⟩ := hs; exact ⟨σ', _, ⟨a2, c2, r2, I2.unlock e nf⟩, q⟩
  | cont => obtain ⟨σ', H', ⟨a2, c2, r2, I2⟩, e, q⟩ := hs; exact ⟨σ', _, ⟨a2, c2, r2, I2.unlock e nf⟩, q⟩
  | ret v => obtain ⟨x, σ', H', ⟨a2, c2, r2, I2⟩, rv, e, q⟩ := hs; exact ⟨x, σ', _, ⟨a2, c2, r2, I2.unlock e nf⟩, rv, q⟩
def tGFor (wi : TI) (g : TG) (tb : TGn) : TGn := fun D ys σ H => wi σ H fun J H1 => ∃ W : Nat → Nat → List V → St → Hp → Prop, (∃ m, W 0 m ys σ H1) ∧ ∀ i m ys σ H, W i m ys σ H →
  (J.stop i H ∧ D.nx ys σ H) ∨ (J.go i H ∧ ∃ N : List V → St → Hp → Prop, (∀ ys' σ' H', N ys' σ' H' → ∃ m', m' < m ∧ W (i + 1) m' ys' σ' H') ∧ ∀ x H', J.yld i H x H' → g x σ H' fun σ2 H2 => tb { D with nx := N, ct := N, bk := D.nx } ys σ2 H2)
theorem gs_for {tg iter : Expr} {body : List Stmt} {wi : TI} {g : TG} {tb : TGn} {pos : Pos} (hp : PassesOwn (model X.prog X.w) X.A X.env X.xe) (hc : X.calm = true) (hi : PI X tg iter wi) (hg : PG X tg g) (hb : GSs X body tb)
    (hs : ∀ x, foldedSetIterable iter X.env x = pure x := by intro _; rfl) : GS X (.For tg iter body [] pos) (tGFor wi g tb) := by
  refine ⟨fun A S ip R n ys s₀ c fs K J gd lv s σ H D gc hn k hI ht => ?_⟩
  obtain ⟨acc, cc, r, I⟩ := hI
  refine seg_For hs ?_
  rw [gc.over]
  refine wpAny_mono (hi.run _ s σ H _ I ht) (fun v s1 h1 => wpAny_mono h1 (fun itv s2 h2 p => ?_) fun x s' hx => k.exc n s₀ x s' hx) fun x s' hx => k.exc n s₀ x s' hx
  obtain ⟨it, fp, tn, Jt, H2, e, I2, T, st2, f2, W, ⟨m0, w0⟩, turn⟩ := h2
  subst e
  have stat : ∀ {H' : Hp} {acc' : Array Value} {c' : Nat}, (∀ b ∈ fp, H' b = none) → ∀ b ∈ fp, FpOk X ((S, lstObj acc' c') :: ip) H' b := fun {H' acc' c'} hn b hb => by
    obtain ⟨_, q1, q2, q3, q4, q5⟩ := f2 b hb
    refine ⟨hn b hb, q1, q2, q3, q4, fun p hp => ?_⟩
    rcases List.mem_append.mp hp with h | h
    · exact q5 p (List.mem_append_left _ h)
    · rcases List.mem_cons.mp h with h | h
      · rw [h]; exact q5 (S, lstObj acc cc) (List.mem_append_right _ List.mem_cons_self)
      · exact q5 p (List.mem_append_right _ (List.mem_cons_of_mem _ h))
  have nS : ∀ b ∈ fp, b ≠ S := fun b hb e => (f2 b hb).2.2.2.2.2 (S, lstObj acc cc) (List.mem_append_right _ List.mem_cons_self) e.symm
  have gl := fun (kk : Result → Sem PySem.Fin) => gc_loop (k := kk) (c' := .forLoop tg (.ref it) body [] X.env) (l := lv []) (kp := []) (p := p) gc rfl rfl
  have loop : ∀ (m i n : Nat) (ys : List V) (s₀ s : Shared) (σ : St) (H : Hp), n + ys.length = sizeLine → W i m ys σ H → GI X S ip ys σ H s → tn i s.heap → (∀ b ∈ fp, H b = none) →
      Seg (model X.prog X.w) A R (GY X S) n s₀ (.forLoop tg (.ref it) body [] X.env) ((model X.prog X.w).den (.forLoop tg (.ref it) body [] X.env))
        (.ret (fun r => ((match r with | .ok f => (.pure f : Sem Flow) | .error e => .raise e).onRaise (cameBack X.env)).wrap K J gd lv) none (gd false) (lv []) c p [] :: fs) s := by
    intro m
    induction m using Nat.strongRecOn with
    | ind m ih =>
      intro i n ys s₀ s σ H hn w hI st3 fr3
      have ee : ∀ (n : Nat) (s₀ : Shared) (x : Value) (s' : Shared), X.xe x s' → Seg (model X.prog X.w) A R (GY X S) n s₀ (.forLoop tg (.ref it) body [] X.env)
          ((do noteFrame x X.env; theTreesLotGoes x : Sem Unit).wrap (fun _ => .raise x) .raise id id)
          (.ret (fun r => ((match r with | .ok f => (.pure f : Sem Flow) | .error e => .raise e).onRaise (cameBack X.env)).wrap K J gd lv) none (gd false) (lv []) c p [] :: fs) s' := fun n s₀ x s' hx => by
        refine seg_wrap ?_
        rw [(gl _).over]
        refine wpAny_bind (wpAny_mono (hp x s' hx) (fun _ s'' hcb => wpAny_theTreesLotGoes ?_) fun y s'' hcb => ?_)
        · exact seg_leaf (.error x) (seg_cameBack gc k hcb)
        · exact seg_leaf (.error y) (seg_cameBack gc k hcb)
      refine seg_forLoop ?_
      rw [(gl _).over]
      obtain ⟨acc, cc, r, I⟩ := hI
      rcases turn i m ys σ H w with ⟨stop, qn⟩ | ⟨go, N, hN, step⟩
      · refine wpAny_mono (T.done X rfl rfl rfl hc i _ s σ H X.xe I (stat fr3) st3 stop) (fun rr s4 hq => ?_) fun x s' hx => ee n s₀ x s' hx
        obtain ⟨hr, I4⟩ := hq
        subst hr
        refine seg_again rfl ?_
        exact seg_leaf (.ok .next) (k.ok n ys s₀ s4 .next hn ⟨σ, H, ⟨acc, cc, r, I4⟩, qn⟩)
      · refine wpAny_mono (T.item X rfl rfl rfl hc i _ s σ H X.xe I (stat fr3) st3 go) (fun rr s4 hq => ?_) fun x s' hx => ee n s₀ x s' hx
        obtain ⟨u, hr, h4⟩ := hq
        subst hr
        refine wpAny_mono h4 (fun _ s5 hq => ?_) fun x s' hx => ee n s₀ x s' hx
        obtain ⟨x, H5, I5, r5, y5, st5, fr5⟩ := hq
        have I5' := I5.pinned (stat fr5) (T.obj _ _ st5)
        refine wpAny_mono (hg.run _ s5 σ H5 x u _ I5' r5 (step x H5 y5)) (fun _ s6 hq => ?_) fun x s' hx => ee n s₀ x s' hx
        obtain ⟨σ6, H6, I6, q6⟩ := hq
        have gl2 := gl (fun r => ((match r with | .ok f => (.pure f : Sem Flow) | .error e => .raise e).onRaise (cameBack X.env)).wrap K J gd lv)
        refine hb.run A S (ip ++ pinsAt fp s5.heap) R n ys s₀ _ _ _ _ id id s6 σ6 H6 { D with nx := N, ct := N, bk := D.nx } { gl2 with ip := fun q hq => ?_ } hn ⟨fun n' ys' s₀' s7 f hn' hs => ?_, fun n' s₀' x s3 hx => ee n' s₀' x s3 hx⟩ ⟨acc, cc, r, I6⟩ q6
        · rcases List.mem_append.mp hq with h | h
          · exact gc.ip q h
          · exact nS _ (of_pinsAt h).1
        · have again : ∀ {σ7 : St} {H7 : Hp}, GI X S (ip ++ pinsAt fp s5.heap) ys' σ7 H7 s7 → N ys' σ7 H7 → Seg (model X.prog X.w) A R (GY X S) n' s₀' (.forLoop tg (.ref it) body [] X.env) (.pure (.again (.forLoop tg (.ref it) body [] X.env)))
              (.ret (fun r => ((match r with | .ok f => (.pure f : Sem Flow) | .error e => .raise e).onRaise (cameBack X.env)).wrap K J gd lv) none (gd false) (lv []) c p [] :: fs) s7 := fun {σ7 H7} I7 n7 => by
            obtain ⟨m', hm, w7⟩ := hN ys' σ7 H7 n7
            obtain ⟨a7, c7, r7, I7⟩ := I7
            have I7' : Inv X (((S, lstObj a7 c7) :: ip) ++ pinsAt fp s5.heap) σ7 H7 s7 := I7
            refine seg_again rfl (ih m' hm (i + 1) n' ys' s₀' s7 σ7 H7 hn' w7 ⟨a7, c7, r7, I7'.unpinned⟩ (T.keep _ _ _ st5 fun b hb o e => (I7'.pin (b, o) (List.mem_append_right _ (List.mem_append_right _ (mem_pinsAt hb e)))).1) fun b hb => ?_)
            obtain ⟨o, e, d⟩ := T.obj _ _ st5 b hb
            exact (I7'.pin (b, o) (List.mem_append_right _ (List.mem_append_right _ (mem_pinsAt hb e)))).2.1
          have un : ∀ {σ7 : St} {H7 : Hp}, GI X S (ip ++ pinsAt fp s5.heap) ys' σ7 H7 s7 → GI X S ip ys' σ7 H7 s7 := fun {σ7 H7} I7 => by
            obtain ⟨a7, c7, r7, I7⟩ := I7
            have I7' : Inv X (((S, lstObj a7 c7) :: ip) ++ pinsAt fp s5.heap) σ7 H7 s7 := I7
            exact ⟨a7, c7, r7, I7'.unpinned⟩
          cases f with
          | next => obtain ⟨σ7, H7, I7, n7⟩ := hs; exact again I7 n7
          | cont => obtain ⟨σ7, H7, I7, n7⟩ := hs; exact again I7 n7
          | brk => obtain ⟨σ7, H7, I7, q7⟩ := hs; exact seg_leaf (.ok .next) (k.ok n' ys' s₀' s7 .next hn' ⟨σ7, H7, un I7, q7⟩)
          | ret v => obtain ⟨x7, σ7, H7, I7, r7, q7⟩ := hs; exact seg_leaf (.ok (.ret v)) (k.ok n' ys' s₀' s7 (.ret v) hn' ⟨x7, σ7, H7, un I7, r7, q7⟩)
  exact loop m0 0 n ys s₀ s2 σ H2 hn w0 ⟨acc, cc, r, I2⟩ st2 fun b hb => (f2 b hb).1
end
end L2

set_option Elab.async false
set_option linter.all false
set_option maxRecDepth 100000
set_option maxHeartbeats 4000000
namespace L2
open PySem PySem.Spec PyProof.Rows GenW
/-- a for in a generator's body: Pv by the turn, what is out, the slots and the heap -/
theorem for_itG {J : It} {n : Nat} {G : Hp → Prop} {Y : Nat → Hp → V → Hp → Prop} (w : Walk J n G Y) {g : TG} {tb : TGn} {D : GEnds} {ys : List V} {σ : St} {H : Hp} (Pv : Nat → List V → St → Hp → Prop) (h0 : Pv 0 ys σ H) (hG : ∀ i ys σ H, i ≤ n → Pv i ys σ H → G H)
    (hs : ∀ i x ys σ H H', i < n → Pv i ys σ H → Y i H x H' → g x σ H' fun σ2 H2 => tb { D with nx := Pv (i + 1), ct := Pv (i + 1), bk := D.nx } ys σ2 H2) (hd : ∀ ys σ H, Pv n ys σ H → D.nx ys σ H) :
    ∃ W : Nat → Nat → List V → St → Hp → Prop, (∃ m, W 0 m ys σ H) ∧ ∀ i m ys σ H, W i m ys σ H →
      (J.stop i H ∧ D.nx ys σ H) ∨ (J.go i H ∧ ∃ N : List V → St → Hp → Prop, (∀ ys' σ' H', N ys' σ' H' → ∃ m', m' < m ∧ W (i + 1) m' ys' σ' H') ∧ ∀ x H', J.yld i H x H' → g x σ H' fun σ2 H2 => tb { D with nx := N, ct := N, bk := D.nx } ys σ2 H2) := by
  refine ⟨fun i m ys σ H => m = n - i ∧ i ≤ n ∧ Pv i ys σ H, ⟨n, by simp, Nat.zero_le _, h0⟩, ?_⟩
  rintro i m ys σ H ⟨rfl, hi, p⟩
  have q := hG i ys σ H hi p
  by_cases hlt : i < n
  · exact .inr ⟨w.goes i H hlt q, Pv (i + 1), fun ys' σ' H' p' => ⟨n - (i + 1), by omega, rfl, hlt, p'⟩, fun x H' y => hs i x ys σ H H' hlt p (w.yields i H x H' hlt q y)⟩
  · have e : i = n := by omega
    subst e
    exact .inl ⟨w.stops H q, hd ys σ H p⟩
end L2
namespace L2.G42
open PySem PySem.Spec PyProof.Rows
/-- a generator def, by its body -/
theorem _root_.L2.Fun.gen {P : Program} {w : World} {K : PySem.W.Frag} {mg : Str → Option Value} {base : Heap} {x qual : Str} {st : Stmt} {f : Addr} {fd : FuncData} {N ps : List Str} {k : Nat} {sp : SpG} (F : L2.Fun K x qual st f fd) (S : GScope N ps (defScope st)) (len : ∀ vs H Q E, sp vs H Q E → vs.length = ps.length)
    (hbody : ∀ (cdv : Value) (A : Around) (outer : List Env) (s : Shared) (H : Hp) (vs : List V) (Q : List V → Hp → Prop) (E : XK) (pn : List (Addr × Obj)), Room k (A.deeper (envOfC qual (defScope st) s.heap.objs.size f cdv)) → sp vs H Q E →
      ∃ t, GSs (gcxOf P w K mg base N qual (defScope st) f cdv A outer s H E pn) (defBody st) t ∧ t { nx := fun ys _ H' => Q ys H', rt := fun ys v H' => v = .non ∧ Q ys H' } [] (start N vs) H) : GFn P w K mg base (k + 1) f fd ps sp := by
  obtain ⟨oc, od, kV, doc, pm, an, cdv, ct, osl, rfl, lk, hcd⟩ := F.ex
  exact gfn_of lk hcd S len (hbody cdv)
/-- a generator method -/
structure Gm (P : Program) (w : World) (K : PySem.W.Frag) (mg : Str → Option Value) (base : Heap) (k : Nat) (C : Addr) (m : Str) (sp : SpG) : Prop where
  ex : ∃ (f : Addr) (fd : FuncData) (ps : List Str), Cls K C ∧ Meth K C m f ∧ GFn P w K mg base k f fd ps sp ∧ Binds K fd ps []
/-- list(o.m()) -/
theorem pe_lgm {X : Cx} {k j : Nat} {C : Addr} {m : Str} {sp : SpG} {o : Expr} {ta : TE} {p pos pos' apos : Pos} {pl : Sem Bool} (c : Gm X.prog X.w X.K X.mg X.base k C m sp) (hr : Room j X.A) (hk : k + 3 ≤ j) (he : PE X o ta) (hg : Gl X "list") (hmg : X.mg "list" = none)
    (hst : starEach [.Call (.Attribute o m apos) [] [] pos'] X.env = (false, eval (.Call (.Attribute o m apos) [] [] pos') X.env) :: starEach [] X.env := by rfl)
    (ht : eval (.Call (.Attribute o m apos) [] [] pos') X.env = (do
      let ov ← eval o X.env
      standAt apos.atName
      let (f, first) ← holding [ov] (getMethod ov m pl)
      callWith pos' f first (backTo pos' (starEach [] X.env)) (backToKw pos' (keywordEach [] X.env))) := by rfl) :
    PE X (.Call (.Name "list" p) [.Call (.Attribute o m apos) [] [] pos'] [] pos) (tListG (tMethG C m sp [] E0 ta tNil)) := by
  obtain ⟨f, fd, ps, c1, c2, F, hb⟩ := c.ex
  exact pe_listG (pgen_meth0 he c1 c2 F (hr.mono (by omega)) hb .nil ht) (fun pins σ H s e s' I h => passL pins σ H s e s' I h) (fun _ _ _ h => h.elim) (hr.mono hk) hg hmg boot_list (by decide) (by decide) hst
/-- the tuples of places -/
def PlAt (H : Hp) : List V → List (List Str) → Prop
  | [], [] => True
  | v :: vs, p :: ps => (∃ q, v = .ref q ∧ H q = some (.tup (p.map V.str))) ∧ PlAt H vs ps
  | _, _ => False
theorem PlAt.grow {S : Addr → Prop} {H H' : Hp} (hS : ∀ a, S a → ∀ xs, H a ≠ some (.tup xs)) (g : But S H H') : ∀ {vs : List V} {ps : List (List Str)}, PlAt H vs ps → PlAt H' vs ps
  | [], [], _ => trivial
  | v :: vs, p :: ps, h => let ⟨⟨q, e, e1⟩, h2⟩ := h; ⟨⟨q, e, g q _ e1 fun s => hS q s _ e1⟩, PlAt.grow hS g h2⟩
  | [], _ :: _, h => h.elim
  | _ :: _, [], h => h.elim
theorem PlAt.snoc {H : Hp} {q : Addr} {p : List Str} (hq : H q = some (.tup (p.map V.str))) : ∀ {vs : List V} {ps : List (List Str)}, PlAt H vs ps → PlAt H (vs ++ [.ref q]) (ps ++ [p])
  | [], [], _ => ⟨⟨q, rfl, hq⟩, trivial⟩
  | v :: vs, p' :: ps, h => ⟨h.1, PlAt.snoc hq h.2⟩
  | [], _ :: _, h => h.elim
  | _ :: _, [], h => h.elim
theorem PlAt.len {H : Hp} : ∀ {vs : List V} {ps : List (List Str)}, PlAt H vs ps → vs.length = ps.length
  | [], [], _ => rfl
  | _ :: _, _ :: _, h => congrArg (· + 1) (PlAt.len h.2)
  | [], _ :: _, h => h.elim
  | _ :: _, [], h => h.elim
/-- places, tables, bags: the places of the rows that are wanted -/
def spBPl (BK : Addr) (want : Row → Bool) : SpG := fun vs H Q _ => ∃ (b D : Addr) (n : Nat) (t : Tr n), vs = [.ref b] ∧ BkTr BK H b D n t ∧ ∀ ys : List V, PlAt H ys (((Tr.rows n [] t).filter want).map (·.pl)) → Q ys H
end L2.G42

set_option Elab.async false
set_option linter.all false
set_option maxRecDepth 100000
set_option maxHeartbeats 4000000
namespace L2.G42
open PySem PySem.Spec PyProof.Rows
section
variable {X : Cx} {pins : List (Addr × Obj)} {σ : St} {A : Around} {E : Value → Shared → Prop}
theorem upd_is {H : Hp} {d : Addr} {u : HO} (h : H d = some u) : upd H d u = H := by
  funext b
  by_cases e : b = d
  · rw [e, upd_same, h]
  · rw [upd_ne e]
theorem set_dTA {H : Hp} {s : Shared} {D b : Addr} {kvs : List (List Key × V)} {k : List Key} {z : V} {r : Value} {Q : Unit → Shared → Prop} (hu : A.units + 1 < cLine) (I : Inv X pins σ H s) (eD : H D = some (.dT kvs)) (eb : H b = some (.tup (k.map kV))) (few : kvs.length < sizeLine)
    (rz : RelV z r) (h : ∀ s', Inv X pins σ (upd H D (.dT (putK kvs k z))) s' → Q () s') : wpAny (model X.prog X.w) A (dictSet D (.ref b) r) Q E s := by
  obtain ⟨len, nsys, xs, rel, own⟩ := dt_of I.hok eD
  have l1 : xs.length ≤ sizeLine := by rw [← Paired.length rel]; exact len
  have l2 : (putK kvs k z).length ≤ sizeLine := by have := length_putK kvs k z; omega
  refine wpAny_dictSet_heap (hsz := l1) (show A.units < cLine by omega) (key_of I.hok eb) own fun h' own' same => h _ ?_
  obtain ⟨q, es, ep, q1, q2, q3, q4, _, q5⟩ := own'
  refine d_write I (by rw [eD]; trivial) same ⟨q, q1⟩ ⟨l2, nsys, _, (rel.put k eb rz).keeps fun c ys ec => ?_, q, es, ep, q1, q2, q3, q4, q5⟩
  rw [upd_ne (ne_of ec eD (fun z => nomatch z))]
  exact ec
/-- a pair: its own tuple at p, the key's tuple within -/
def PrAt (H : Hp) (q : Addr × List Key × V) : Prop := ∃ c, H q.1 = some (.tup [.ref c, q.2.2]) ∧ H c = some (.tup (q.2.1.map kV))
def putAllT (acc : List (List Key × V)) (ps : List (Addr × List Key × V)) : List (List Key × V) := ps.foldl (fun a q => putK a q.2.1 q.2.2) acc
theorem upd_loopT {R : Result → Shared → Prop} {S I l : Addr} {items : List V} {res : Value} (hh : A.handled = none) (hu : A.units + 3 < cLine) (hlI : l ≠ I) :
    ∀ (rest : List (Addr × List Key × V)) (i : Nat) (acc : List (List Key × V)) (ix : Int) (t : Tok) (H : Hp) (s : Shared), Inv X pins σ H s → H S = some (.dT acc) → acc.length + rest.length ≤ sizeLine → items.length = i + rest.length → SqL X.K H l items → l ≠ S →
      (∀ (j : Nat) (q : Addr × List Key × V), rest[j]? = some q → items[i + j]? = some (.ref q.1) ∧ PrAt H q) → s.heap.IsListIter I l i → FpOk X pins H I →
      (∀ s', Inv X pins σ (upd H S (.dT (putAllT acc rest))) s' → R (.ok (.ret res)) s') →
      codeAny (model X.prog X.w) A (.builtin "dict.update.loop" ⟨[.ref S, .ref I, .int ix t, res], []⟩) R s
  | [], i, acc, ix, t, H, s, J, hS, hln, hsz, hl, hlS, ht, hit, fp, hR => by
    refine codeAny_builtin ud_entry ?_
    rw [Around.under_plainId ud_plain _]
    show wpAny _ A.in1 (pyNext (.ref I) >>= _) _ _ s
    obtain ⟨its, rv, ⟨o, n, ho, hc, hd, hdat⟩, _⟩ := J.list hl
    have hlen : its.length = i := by rw [← rv.length, hsz]; rfl
    obtain ⟨f0, f1, f2, f3, f4, f5⟩ := fp
    refine wpAny_bind (wpAny_pyNext_list_end (A := A.in1) hh hit ⟨o, ho, hc, n, hdat⟩ (by simp [hlen]) fun h' he => ?_)
    show wpAny _ A.in1 (Builtin.Dict.addKeywords S [] >>= _) _ _ _
    refine wpAny_bind (wpAny_pure (wpAny_pure ?_))
    refine hR _ ?_
    show Inv X pins σ (upd H S (.dT acc)) _
    rw [upd_is hS]
    exact J.turned (t' := s.toks) (fun b o hb e => he b o hb e) f0 f1 f3 f4 f5
  | q :: rest, i, acc, ix, t, H, s, J, hS, hln, hsz, hl, hlS, ht, hit, fp, hR => by
    obtain ⟨hb, c, ep, ec⟩ := ht 0 q rfl
    rw [List.length_cons] at hsz hln
    refine codeAny_builtin ud_entry ?_
    rw [Around.under_plainId ud_plain _]
    show wpAny _ A.in1 (pyNext (.ref I) >>= _) _ _ s
    obtain ⟨its, rv, ⟨o, n, ho, hc, hd, hdat⟩, _⟩ := J.list hl
    have hlen : its.length = i + (rest.length + 1) := by rw [← rv.length, hsz]
    obtain ⟨f0, f1, f2, f3, f4, f5⟩ := id fp
    have hx : its[i]? = some (.ref q.1) := by
      obtain ⟨u, e1, e2⟩ := rv.get hb
      cases e2
      exact e1
    refine wpAny_bind (wpAny_pyNext_list_item (x := .ref q.1) hit ⟨o, ho, hc, n, hdat⟩ (by simpa using hx) fun h1 hit1 hs1 => ?_)
    have J1 : Inv X pins σ H { s with heap := h1 } := J.turned (t' := s.toks) (fun b o hb e => hs1.extBut b o hb e) f0 f1 f3 f4 f5
    obtain ⟨it2, rv2, ⟨o2, ho2, hc2, n2, hd2⟩, _⟩ := J1.tuple (SqT.of (K := X.K) ep)
    obtain ⟨u, y, ei, ru, ry⟩ := vals2 rv2
    subst ei
    obtain rfl : u = Value.ref c := ru
    show wpAny _ A.in1 (holding [Value.ref q.1] _ >>= _) _ _ _
    refine wpAny_bind (wpAny_holding ?_)
    refine wpAny_bind (wpAny_tryCatch ?_)
    unfold Builtin.Dict.pairItems
    refine wpAny_bind (wpAny_typeOf (T := "tuple") ⟨o2, ho2, hc2⟩ ?_)
    rw [if_pos (by first | decide | rfl | simp)]
    refine wpAny_bind (wpAny_seqItems ho2 hd2 (wpAny_pure ?_))
    show wpAny _ A.in1 (holding [Value.ref c, y] (dictSet S (.ref c) y)) _ _ _
    obtain ⟨oi, ei1, ei2, ei3⟩ := id hit1
    have J2 := J1.pinned (fp := [I]) (fun b hb => by rw [List.mem_singleton.mp hb]; exact fp) (fun b hb => by
      rw [List.mem_singleton.mp hb]
      exact ⟨oi, ei1, fun v e => by rw [ei3] at e; cases e⟩)
    refine wpAny_holding (set_dTA (show A.in1.units + 1 < cLine by show A.units + 1 + 1 < cLine; omega) J2 hS ec (by omega) ry fun s3 J3 => ?_)
    have hiS : I ≠ S := fun e => by rw [e, hS] at f0; cases f0
    have ei4 : s3.heap.get? I = some oi := (J3.pin (I, oi) (List.mem_append_right _ (List.mem_append_right _ (mem_pinsAt (List.mem_singleton.mpr rfl) ei1)))).1
    have gg : ∀ a xs, H a = some (.tup xs) → (upd H S (.dT (putK acc q.2.1 q.2.2))) a = some (.tup xs) := fun a xs e => by
      rw [upd_ne (ne_of e hS (fun z => nomatch z))]; exact e
    refine wpAny_pure ⟨plainId_quiet ud_plain _, upd_loopT (items := items) hh hu hlI rest (i + 1) (putK acc q.2.1 q.2.2) (ix + 1) 0 (upd H S (.dT (putK acc q.2.1 q.2.2))) s3 J3.unpinned upd_same ?_ (by omega) ?_ hlS (fun j q' e => ?_) ⟨oi, ei4, ei2, ei3⟩ ⟨(upd_ne hiS).trans f0, f1, f2, f3, f4, f5⟩ fun s' J' => ?_⟩
    · have z := length_putK acc q.2.1 q.2.2
      omega
    · rcases hl with hl | hl
      · refine .inl ?_
        rcases hl with hl | ⟨o', hl⟩
        · exact .inl ((upd_ne hlS).trans hl)
        · exact .inr ⟨o', (upd_ne hlS).trans hl⟩
      · exact .inr hl
    · obtain ⟨hb', c', ep', ec'⟩ := ht (j + 1) q' (by simpa using e)
      refine ⟨?_, c', gg _ _ ep', gg _ _ ec'⟩
      rw [show i + 1 + j = i + (j + 1) by omega]
      exact hb'
    · rw [upd_twice] at J'
      exact hR s' J'
/-- dict(xs) of a list of pairs whose keys are tuples -/
def rDictT (K : PySem.W.Frag) : List V → Hp → VK → Prop := fun xs H Q => ∃ (a : Addr) (ps : List (Addr × List Key × V)), xs = [.ref a] ∧ SqL K H a (ps.map fun q => V.ref q.1) ∧ (∀ q ∈ ps, PrAt H q) ∧ ∀ p, H p = none → Q (.ref p) (upd H p (.dT (putAllT [] ps)))
theorem cr_dictT {X : Cx} {K : PySem.W.Frag} (hK : X.K = K) (hcalm : X.calm = true) (hu : X.A.units + 64 < cLine) : CallR X (.type "dict") (rDictT K) := by
  subst hK
  intro pins s σ H xs us Q I r q
  obtain ⟨a, ps, ex, hq, hp, q⟩ := q
  subst ex
  obtain ⟨u, eu, rx⟩ := vals1 r
  subst eu
  cases rx
  obtain ⟨its, rv, ⟨ol, n, hl, hc, hd, hdat⟩, hz⟩ := I.list hq
  rw [List.length_map] at hz
  have hh := I.ok.hd hcalm
  refine callType_codes (Q₁ := fun obj s₁ => obj = .ref s.heap.objs.size ∧ s₁ = { s with heap := s.heap.push { cls := .type "dict", data := .dict #[] } }) PySem.F.kt_called_dict (PySem.F.kt_typeCall_dict_1 _) PySem.F.entry_dict_init (kt_code_dict_new _ ⟨rfl, rfl⟩) ?_
  rintro obj s₁ ⟨rfl, rfl⟩
  have hnew : (s.heap.push { cls := .type "dict", data := .dict #[] }).DictOf (mixKind X.prog X.w) s.heap.objs.size [] := Heap.DictOf.new s.heap
  have I1 : Inv X pins σ (upd H s.heap.objs.size (.dT [])) { s with heap := s.heap.push { cls := .type "dict", data := .dict #[] } } := I.laid (t' := s.toks) (fun _ _ e => Heap.get?_push_of_some _ e) (Nat.le_refl _) (dt_empty s.heap I.big)
  have k0 : ∀ b o, s.heap.get? b = some o → (s.heap.push { cls := .type "dict", data := .dict #[] }).get? b = some o := fun b o e => Heap.get?_push_of_some _ e
  refine ⟨hnew.typeIs, PySem.F.args_dict_init_2 _ _, ?_⟩
  unfold Builtin.«dict.__init__»
  refine wpAny_bind ?_
  unfold Builtin.Dict.selfAndRest
  refine wpAny_bind (wpAny_notOrdered_dict hnew.typeIs ?_)
  show wpAny _ _ (pure (s.heap.objs.size, [Value.ref a])) _ _ _
  refine wpAny_pure ?_
  show wpAny _ _ (Builtin.Dict.updateFrom "dict.__init__" s.heap.objs.size (.ref a) [] .none) _ _ _
  unfold Builtin.Dict.updateFrom
  refine wpAny_bind (wpAny_typeOf (T := "list") ⟨ol, k0 _ _ hl, hc⟩ ?_)
  rw [if_pos (by first | decide | rfl | simp)]
  refine wpAny_bind (miss_list (k0 _ _ hl) hc hdat hd hh fun h1 tk1 hk1 => ?_)
  rw [if_pos (show (none : Option Value).isNone = true from rfl)]
  refine wpAny_bind (wpAny_rule ?_)
  have hl1 : h1.IsList a its.toArray := ⟨ol, hk1 _ _ (k0 _ _ hl), hc, n, hdat⟩
  refine wpAny_bind (wpAny_pyIter_list hl1 ?_)
  have I2 : Inv X pins σ (upd H s.heap.objs.size (.dT [])) { s with heap := h1, toks := tk1 } := I1.kept (t' := tk1) hk1
  have I3 : Inv X pins σ (upd H s.heap.objs.size (.dT [])) { s with heap := h1.push { cls := .type "list_iterator", data := .fields #[.ref a, .int 0 0] }, toks := tk1 } := I2.kept (t' := tk1) fun b o e => Heap.get?_push_of_some _ e
  have hS0 : H s.heap.objs.size = none := I.hok.fresh (Nat.le_refl _)
  have hlt : a < s.heap.objs.size := Heap.lt_size hl
  have hS1 : s.heap.objs.size < h1.objs.size := by
    have e : (s.heap.push { cls := .type "dict", data := .dict #[] }).get? s.heap.objs.size = some { cls := .type "dict", data := .dict #[] } := Heap.get?_push_size _ rfl
    exact Heap.lt_size (hk1 _ _ e)
  have fp : FpOk X pins (upd H s.heap.objs.size (.dT [])) h1.objs.size := I2.fpOk (Nat.le_refl _) (I2.hok.fresh (Nat.le_refl _))
  have naS : a ≠ s.heap.objs.size := Nat.ne_of_lt hlt
  have key := upd_loopT (X := X) (pins := pins) (σ := σ) (A := X.A.in1) (R := wants (fun r s₂ => r = .none ∧ EP X pins σ Q (.ref s.heap.objs.size) s₂) X.xe) (S := s.heap.objs.size) (I := h1.objs.size) (l := a) (items := ps.map fun q => V.ref q.1) (res := Value.none) hh (show X.A.units + 1 + 3 < cLine by omega)
    (Nat.ne_of_lt (Nat.lt_trans hlt hS1)) ps 0 [] 0 0 (upd H s.heap.objs.size (.dT [])) { s with heap := h1.push { cls := .type "list_iterator", data := .fields #[.ref a, .int 0 0] }, toks := tk1 } I3 upd_same (by rw [List.length_nil, Nat.zero_add]; exact hz) (by rw [List.length_map, Nat.zero_add])
    (by
      rcases hq with hl | hl
      · refine .inl ?_
        rcases hl with hl | ⟨o', hl⟩
        · exact .inl ((upd_ne naS).trans hl)
        · exact .inr ⟨o', (upd_ne naS).trans hl⟩
      · exact .inr hl) naS
    (fun j q' e => by
      obtain ⟨c, e1, e2⟩ := hp q' (List.mem_of_getElem? e)
      exact ⟨by rw [Nat.zero_add, List.getElem?_map, e]; rfl, c, (upd_ne (ne_of_none e1 hS0)).trans e1, (upd_ne (ne_of_none e2 hS0)).trans e2⟩)
    ⟨_, Heap.get?_push_size _ rfl, rfl, rfl⟩ fp
    (fun s' J' => ⟨rfl, .ref s.heap.objs.size, _, by rw [upd_twice] at J'; exact J', rfl, q _ hS0⟩)
  first
    | exact wpAny_pure ⟨plainId_quiet ud_plain _, key⟩
    | exact wpAny_bind (wpAny_pure (wpAny_pure ⟨plainId_quiet ud_plain _, key⟩))
end
end L2.G42

set_option Elab.async false
set_option linter.all false
set_option maxRecDepth 100000
set_option maxHeartbeats 4000000
namespace L2.G42
open PySem PySem.Spec
/-- one of the promises S 0 .. S m -/
def spUp (S : Nat → Sp) (m : Nat) : Sp := fun vs H Q E => ∃ n, n ≤ m ∧ S n vs H Q E
theorem FnOk.up {P : Program} {w : World} {K : PySem.W.Frag} {mg : Str → Option Value} {base : Heap} {CX : CXT} {k m : Nat} {f : Addr} {fd : FuncData} {ps : List Str} {S : Nat → Sp} (h : ∀ n, n ≤ m → FnOk P w K mg base CX k f fd ps (S n)) : FnOk P w K mg base CX k f fd ps (spUp S m) :=
  ⟨fun vs H Q E ⟨n, hn, q⟩ => (h n hn).len vs H Q E q, fun A outer s H args us vs Q E hr he hb hv ⟨n, hn, q⟩ => (h n hn).run A outer s H args us vs Q E hr he hb hv q⟩
theorem FnOk.up4 {P : Program} {w : World} {K : PySem.W.Frag} {mg : Str → Option Value} {base : Heap} {CX : CXT} {k : Nat} {f : Addr} {fd : FuncData} {ps : List Str} {S : Nat → Sp} (h0 : FnOk P w K mg base CX k f fd ps (S 0)) (h1 : FnOk P w K mg base CX k f fd ps (S 1)) (h2 : FnOk P w K mg base CX k f fd ps (S 2)) (h3 : FnOk P w K mg base CX k f fd ps (S 3))
    (h4 : FnOk P w K mg base CX k f fd ps (S 4)) : FnOk P w K mg base CX k f fd ps (spUp S 4) :=
  FnOk.up fun n hn => match n, hn with | 0, _ => h0 | 1, _ => h1 | 2, _ => h2 | 3, _ => h3 | 4, _ => h4
/-- a list of places, as data -/
def dPl (ps : List (List Str)) : PyData := .list (ps.map fun p => .tuple (dS p))
theorem dp_pl {K : PySem.W.Frag} {H : Hp} : ∀ {vs : List V} {ps : List (List Str)}, PlAt H vs ps → DpAll K H vs (ps.map fun p => .tuple (dS p))
  | [], [], _ => .nil
  | v :: vs, p :: ps, h => by
    obtain ⟨⟨q, rfl, e⟩, h2⟩ := h
    exact .cons (dpT (SqT.of e)) (dp_pl h2)
  | [], _ :: _, h => h.elim
  | _ :: _, [], h => h.elim
theorem eqvs_pl : ∀ ps : List (List Str), PyData.eqvAll (ps.map fun p => .tuple (dS p)) (ps.map fun p => .tuple (dS p)) = true
  | [] => by rfl
  | p :: ps => by
    show PyData.eqvAll (.tuple (dS p) :: _) (.tuple (dS p) :: _) = true
    rw [PyData.eqvAll, eqv_tup, decide_eq_true rfl, eqvs_pl ps]
    rfl
theorem eqv_pl (ps : List (List Str)) : PyData.eqv (dPl ps) (dPl ps) = true := by
  unfold dPl
  rw [PyData.eqv]
  exact eqvs_pl ps
theorem can_pl : ∀ ps : List (List Str), (∀ p ∈ ps, SoAll p) → PyData.canLayAll0 (ps.map fun p => .tuple (dS p)) = true
  | [], _ => by simp [PyData.canLayAll0]
  | p :: ps, h => by
    show PyData.canLayAll0 (.tuple (dS p) :: _) = true
    rw [PyData.canLayAll0, can_pl ps fun y hy => h y (List.mem_cons_of_mem _ hy), PyData.canLay0, canS p (h p List.mem_cons_self)]
    rfl
theorem dep_pl : ∀ ps : List (List Str), PyData.depthAll (ps.map fun p => .tuple (dS p)) ≤ 1
  | [] => by simp [PyData.depthAll]
  | p :: ps => by
    show PyData.depthAll (.tuple (dS p) :: _) ≤ 1
    have := dep_pl ps
    rw [PyData.depthAll, PyData.depth, depS]
    omega
theorem shaped_pl {ps : List (List Str)} (h : ∀ p ∈ ps, SoAll p) : SeqAt.shaped (dPl ps) = true := by
  have := dep_pl ps
  refine Bool.and_eq_true_iff.mpr ⟨?_, decide_eq_true ?_⟩
  · unfold dPl
    rw [PyData.canLay0]; exact can_pl ps h
  · unfold dPl
    rw [PyData.depth]
    omega
end L2.G42

set_option Elab.async false
set_option linter.all false
set_option maxRecDepth 100000
set_option maxHeartbeats 4000000
/-! == of dicts with tuple keys -/
namespace L2.G42
open PySem PySem.Spec PySem.W PyProof.Rows PyProof.V PySem.Calls
section
variable {prog : Program} {w : World} {K : Type} [DecidableEq K] {knd : HeapKind prog w K} {A : Around} {E : Value → Shared → Prop} {s : Shared}
theorem samePairsH {nm : String} {a b : Addr} {xa xb : List (K × Addr × Value)} {r : Bool} {Q : Bool → Shared → Prop} (ha : (a == sysModules) = false) (hb : (b == sysModules) = false) (hu : knd.room A)
    (da : s.heap.DictOfH knd a xa) (db : s.heap.DictOfH knd b xb) (hits : xa.length = xb.length → KeqHits A s (pairsH xb) (pairsH xa) r) (h : Q (xa.length == xb.length && r) s) :
    wpAny (model prog w) A (Builtin.Dict.samePairs nm a b) Q E s := by
  obtain ⟨oa, es, ep, hoa, _, hda, hea, hia, hna⟩ := da
  obtain ⟨ob, es', ep', hob, _, hdb, heb, hib, hnb⟩ := db
  have hla : xa.length = es.size := (size_of_entries hea).symm
  have hlb : xb.length = es'.size := (size_of_entries heb).symm
  rw [hla, hlb] at h
  unfold Builtin.Dict.samePairs Builtin.Dict.showsAll
  rw [if_neg (show ¬ (a == sysModules) = true by rw [ha]; exact Bool.false_ne_true), if_neg (show ¬ (b == sysModules) = true by rw [hb]; exact Bool.false_ne_true)]
  refine wpAny_bind (wpAny_pure (wpAny_bind (wpAny_pure ?_)))
  refine wpAny_bind (wpAny_dictEntries hoa hda ?_)
  dsimp only
  refine wpAny_bind (wpAny_dictEntries hob hdb ?_)
  by_cases hsz : es.size = es'.size
  case neg =>
    rw [if_pos (by simpa using hsz)]
    have hbf : (es.size == es'.size) = false := by simpa using hsz
    rw [hbf, Bool.false_and] at h
    exact wpAny_bind (wpAny_rule (wpAny_pure h))
  case pos =>
    have h' : Q r s := by simpa [hsz] using h
    have hits' := hits (by rw [hla, hlb]; exact hsz)
    rw [if_neg (by rw [hsz]; simp)]
    refine wpAny_bind (wpAny_dictEpoch hoa hda ?_)
    refine wpAny_bind ?_
    rw [Std.Legacy.Range.forIn_eq_forIn_range']
    simp only [Std.Legacy.Range.size, Nat.sub_zero, Nat.add_sub_cancel, Nat.div_one]
    refine wpAny_forIn_list _
      (fun rest q s' => s' = s ∧ q = (none, ()) ∧ ∃ i, rest = List.range' i (es.size - i) ∧ i ≤ es.size ∧ KeqHits A s (pairsH xb) (pairsH (xa.drop i)) r)
      _ ?_ ?_ _ _ ⟨rfl, rfl, 0, by simp, Nat.zero_le _, hits'⟩
    · rintro x rest q s' ⟨rfl, rfl, i, hr, hi, hpre⟩
      have hlt : i < es.size := by
        rcases Nat.lt_or_ge i es.size with h | h
        · exact h
        · rw [Nat.sub_eq_zero_of_le h] at hr; simp at hr
      obtain ⟨rfl, hrest⟩ : x = i ∧ rest = List.range' (i + 1) (es.size - (i + 1)) := by
        have e : es.size - i = (es.size - (i + 1)) + 1 := by omega
        rw [e, List.range'_succ] at hr
        injection hr with h1 h2
        exact ⟨h1, h2⟩
      refine wpAny_bind (wpAny_dictEntries hoa hda ?_)
      have hlt' : x < xa.length := by rw [hla]; exact hlt
      obtain ⟨k, c, v, hkv⟩ : ∃ k c v, xa[x] = (k, c, v) := ⟨_, _, _, rfl⟩
      have hdrop : xa.drop x = (k, c, v) :: xa.drop (x + 1) := by rw [← hkv]; exact List.drop_eq_getElem_cons hlt'
      rw [entry_at hea x, List.getElem?_eq_getElem hlt', hkv]
      rw [hdrop] at hpre
      show wpAny _ _ (holding [Value.ref c, v] _ >>= _) _ _ _
      have hk : knd.is s'.heap k c := hia (k, c, v) (by rw [← hkv]; exact List.getElem_mem hlt')
      refine wpAny_bind (wpAny_holding (wpAny_bind (wpAny_dictFind_heap hu hk hob hdb heb hib hnb (fun hno => ?_) fun j p hj => ?_)))
      · have hn : valueAt (pairsH xb) k = none := by rw [valueAt_pairsH, atKey_none_of_get hno]; rfl
        rcases KeqHits.inv (k := k) (v := v) (r := pairsH (xa.drop (x + 1))) hpre with ⟨_, er⟩ | ⟨y, _, _, hy, _⟩
        · rw [er] at h'
          refine wpAny_pure ?_
          show wpAny _ _ (if (!false) = true then _ else _) _ _ _
          rw [if_pos (by decide)]
          exact wpAny_pure (wpAny_pure h')
        · rw [hn] at hy; exact nomatch hy
      · have hv' : valueAt (pairsH xb) k = some p.2 := by rw [valueAt_pairsH, atKey_of_get hnb hj]; rfl
        refine wpAny_bind (wpAny_dictEntries hob hdb ?_)
        rw [entry_at heb j, hj]
        rcases KeqHits.inv (k := k) (v := v) (r := pairsH (xa.drop (x + 1))) hpre with ⟨hn, _⟩ | ⟨y, e, b', hy, he, hrr, er⟩
        · rw [hv'] at hn; exact nomatch hn
        · have ey : p.2 = y := Option.some.inj (hv'.symm.trans hy)
          rw [← ey] at he
          refine wpAny_holding (he _ _ _ _ ?_)
          cases e with
          | false =>
            rw [er, Bool.false_and] at h'
            show wpAny _ _ (if (!false) = true then _ else _) _ _ _
            rw [if_pos (by decide)]
            exact wpAny_pure (wpAny_pure h')
          | true =>
            rw [Bool.true_and] at er
            rw [← er] at hrr
            show wpAny _ _ (if (!true) = true then _ else _) _ _ _
            rw [if_neg (by decide)]
            refine wpAny_bind (wpAny_dictEpoch hoa hda ?_)
            rw [if_neg (by simp)]
            exact wpAny_pure ⟨rfl, rfl, x + 1, hrest, hlt, hrr⟩
    · rintro q s' ⟨rfl, rfl, i, hr, hi, hpre⟩
      have hin : i = es.size := by
        rcases Nat.lt_or_ge i es.size with h | h
        · have e : es.size - i = (es.size - (i + 1)) + 1 := by omega
          rw [e, List.range'_succ] at hr; exact nomatch hr
        · exact Nat.le_antisymm hi h
      refine wpAny_pure ?_
      rw [hin, ← hla, List.drop_length] at hpre
      cases hpre
      exact h'
theorem keqH_eq {a b : Addr} {xa xb : List (K × Addr × Value)} {r : Bool} {Q : Value → Shared → Prop} (ha : (a == sysModules) = false) (hb : (b == sysModules) = false) (hk : knd.room A.in1)
    (da : s.heap.DictOfH knd a xa) (db : s.heap.DictOfH knd b xb) (hu : A.units < cLine) (hits : xa.length = xb.length → KeqHits A.in1 s (pairsH xb) (pairsH xa) r) (h : Q (.bool (xa.length == xb.length && r)) s) :
    wpAny (model prog w) A (compareOp .Eq (.ref a) (.ref b)) Q E s := by
  refine wpAny_richCompare_same_room (op := .Eq) da.typeIs db.typeIs PySem.F.slot_dict_eq (wpAny_call_entry PySem.F.slot_dict_eq da.typeIs PySem.F.entry_dict_eq ?_ (PySem.F.args_dict_eq_2 _ _)) hu
  show wpAny _ _ (Builtin.Dict.dictSlotArgs "__eq__" ⟨[.ref a, .ref b], []⟩ >>= _) _ _ s
  refine wpAny_bind ?_
  unfold Builtin.Dict.dictSlotArgs
  refine wpAny_bind (wpAny_notOrdered_dict da.typeIs ?_)
  show wpAny _ _ (pure (Value.ref a, Value.ref b)) _ _ s
  refine wpAny_pure ?_
  refine wpAny_bind (wpAny_isInstance (T := "dict") db.typeIs PySem.F.sub_dict_dict ?_)
  simp only [Bool.not_true, Bool.false_eq_true, if_false]
  refine wpAny_bind (wpAny_pure (wpAny_bind (wpAny_pure ?_)))
  refine wpAny_bind (samePairsH ha hb hk da db hits ?_)
  refine wpAny_pure ⟨_, rfl, ?_, ?_⟩
  · exact fun x => nomatch x
  · simpa using h
end
/-- two lists of marks have the same marks -/
def eqMs (ms ns : List (List Str × Str)) : Bool := ms.length == ns.length && ms.all fun q => decide (valV (kmk ns) (kp q.1) = some (V.str q.2))
def rEqT : R2 := fun x y H Q => ∃ a b ms ns, x = .ref a ∧ y = .ref b ∧ L2.Rd H a (.dT (kmk ms)) ∧ L2.Rd H b (.dT (kmk ns)) ∧ Q (.bl (eqMs ms ns)) H
theorem hits_ms {A : Around} {s : Shared} {H : Hp} {ns : List (List Str × Str)} {xb : List (List Key × Addr × Value)} (rb : KT H (kmk ns) xb) : ∀ {ms : List (List Str × Str)} {xa : List (List Key × Addr × Value)}, KT H (kmk ms) xa →
    KeqHits A s (pairsH xb) (pairsH xa) (ms.all fun q => decide (valV (kmk ns) (kp q.1) = some (V.str q.2)))
  | [], xa, ra => by
    cases ra
    exact .nil
  | q :: ms, xa, ra => by
    cases ra with
    | @cons p x ps qs h t =>
      obtain ⟨k, c, v⟩ := x
      obtain ⟨h1, _, h3⟩ := h
      have hk : kp q.1 = k := h1
      obtain ⟨tk, rfl⟩ : ∃ t, v = Value.str q.2 t := h3
      have rr : RelO (valV (kmk ns) (kp q.1)) (valueAt (pairsH xb) (kp q.1)) := by rw [valueAt_pairsH]; exact rb.val (kp q.1)
      rw [List.all_cons]
      cases e : valV (kmk ns) (kp q.1) with
      | none =>
        rw [e] at rr
        have : valueAt (pairsH xb) k = none := by
          rw [hk] at rr
          cases e2 : valueAt (pairsH xb) k with
          | none => rfl
          | some y => rw [e2] at rr; exact rr.elim
        rw [show decide ((none : Option V) = some (V.str q.2)) = false from rfl, Bool.false_and]
        exact .miss this
      | some y =>
        rw [e] at rr
        obtain ⟨u, hu, ru⟩ := rr.some_of
        rw [hk] at hu
        obtain ⟨z, rfl⟩ : ∃ z, y = V.str z := by
          have : ∀ l : List (List Str × Str), valV (kmk l) (kp q.1) = some y → ∃ z, y = V.str z := by
            intro l
            induction l with
            | nil => intro h; cases h
            | cons p l ih =>
              intro h
              by_cases hp : kp p.1 = kp q.1
              · rw [show kmk (p :: l) = (kp p.1, V.str p.2) :: kmk l from rfl, valV_pos hp] at h
                exact ⟨_, (Option.some.inj h).symm⟩
              · rw [show kmk (p :: l) = (kp p.1, V.str p.2) :: kmk l from rfl, valV_neg hp] at h
                exact ih h
          exact this ns e
        obtain ⟨tu, rfl⟩ := ru
        have e2 : decide (some (V.str z) = some (V.str q.2)) = decide (q.2 = z) := by
          by_cases h : q.2 = z
          · rw [h]; simp
          · rw [decide_eq_false h]
            refine decide_eq_false fun e => h ?_
            injection e with e
            injection e with e
            exact e.symm
        rw [e2]
        exact .hit hu (fun _ _ _ _ h => wpAny_eqBool_str h) (hits_ms rb t)
theorem op_eqT {X : Cx} (hu : X.A.units + 1 < cLine) : OpR X (compareOp .Eq) rEqT := by
  intro pins s σ H x y v u Q I rx ry h
  obtain ⟨a, b, ms, ns, rfl, rfl, ea, eb, q⟩ := h
  obtain rfl : v = Value.ref a := rx
  obtain rfl : u = Value.ref b := ry
  obtain ⟨_, ya, xa, ra, da⟩ := dt_rd I.hok ea
  obtain ⟨_, yb, xb, rb, db⟩ := dt_rd I.hok eb
  have la : xa.length = ms.length := by have := Paired.length ra; unfold kmk at this; simpa using this.symm
  have lb : xb.length = ns.length := by have := Paired.length rb; unfold kmk at this; simpa using this.symm
  exact keqH_eq ya yb (tupleKind_room_in1 hu) da db (by omega) (fun _ => hits_ms rb ra) (fin_bl I q (by unfold eqMs; rw [la, lb]))
end L2.G42

set_option Elab.async false
set_option linter.all false
set_option maxRecDepth 100000
set_option maxHeartbeats 4000000
/-! o == y, o != y by an own __eq__ -/
namespace L2.G42
open PySem PySem.Spec PyProof.Rows
section
variable {X : Cx} {CX : CXT} {n k j : Nat} {C f : Addr} {fd : FuncData} {ps : List Str} {sp : Sp} {E : XK}
def rEqO (K : PySem.W.Frag) (C : Addr) (sp : Sp) (E : XK) : R2 := fun x y H Q => ∃ a dx fs t, x = .ref a ∧ H a = some (.ins C dx fs) ∧ TyX K H y t ∧ PySem.W.notFirst K C t = true ∧ sp [x, y] H Q E
def rNeO (K : PySem.W.Frag) (C : Addr) (sp : Sp) (E : XK) : R2 := fun x y H Q => ∃ a dx fs t, x = .ref a ∧ H a = some (.ins C dx fs) ∧ TyX K H y t ∧ PySem.W.notFirst K C t = true ∧ sp [x, y] H (fun v H' => ∃ b : Bool, v = .bl b ∧ Q (.bl (!b)) H') E
theorem op_eqO_ (F : FnOk X.prog X.w X.K X.mg X.base CX n f fd ps sp) (hs : PySem.W.findIn X.K (.ref C) "__eq__" = some (some (.ref f))) (hf : PySem.W.isFn X.K (.ref f) = true) (hb : Binds X.K fd ps []) (hr : Room n X.A) (hx : Passes CX X E) :
    OpR X (compareOp .Eq) (rEqO X.K C sp E) := by
  intro pins s σ H x y u v Q I rx ry h
  obtain ⟨a, dx, fs, t, rfl, ha, ty, nf, hsp⟩ := h
  have rx' := rx
  cases rx
  obtain ⟨mA, J, _⟩ := ins_get I.hok ha
  obtain ⟨od, J, _⟩ := J.look
  obtain ⟨m, hF⟩ := I.fr
  obtain ⟨P, kx, hP, _⟩ := kit_of I ry ty
  exact PySem.W.cmp_K (op := .Eq) hr.units0 hF I.ok.mod.kin J (kx.ty _ _ I.kIn hP) nf hs hf (own_call F hb hr hx I rx' ry hsp)
theorem own_call1 {pins : List (Addr × Obj)} {s : Shared} {σ : St} {H : Hp} {x y : V} {u v : Value} {Q : VK} (F : FnOk X.prog X.w X.K X.mg X.base CX n f fd ps sp) (hb : Binds X.K fd ps []) (hr : Room (n + 1) X.A) (hx : Passes CX X E)
    (I : Inv X pins σ H s) (rx : RelV x u) (ry : RelV y v) (hsp : sp [x, y] H (fun v H' => ∃ b : Bool, v = .bl b ∧ Q (.bl (!b)) H') E) :
    wpAny (model X.prog X.w) X.A.in1 (call (.ref f) [u, v]) (fun r s' => ∃ b, r = .bool b ∧ EP X pins σ Q (.bool (!b)) s') X.xe s := by
  have hl := F.len _ _ _ _ hsp
  have r2 : Vals [x, y] [u, v] := .cons rx (.cons ry .nil)
  refine wpAny_call (codeAny_mono (F.run X.A.in1 X.stack s H ⟨[u, v], []⟩ [u, v] [x, y] _ E hr.in1 (env_in1 I) (by
    have := hb s [u, v] I.kIn (by simpa using hl)
    simpa using this) r2 hsp) fun r s' hq => ?_)
  cases r with
  | error e => exact hx pins σ H s e s' I hq
  | ok fl =>
    cases fl with
    | ret w =>
      obtain ⟨z, H', I', rz, b, rfl, q⟩ := I.after hq
      cases rz
      exact ⟨b, rfl, .bl _, H', I', rfl, q⟩
    | next => exact False.elim hq
    | brk => exact False.elim hq
    | cont => exact False.elim hq
end
section
variable {prog : Program} {w : World} {A : Around} {E : Value → Shared → Prop} {s : Shared} {K : PySem.W.Frag} {x C f : Addr} {y tb : Value} {ox : Obj} {od : Option Obj}
theorem ne_entryO (X : K.In s.heap) (I : PySem.W.InstAt s.heap x ox C od) (hs : PySem.W.findIn K (.ref C) "__eq__" = some (some (.ref f))) (hf : PySem.W.isFn K (.ref f) = true) (hu : A.units < cLine) {Q : Fin → Shared → Prop}
    (hcall : wpAny (model prog w) A (call (.ref f) [.ref x, y]) (fun v s' => ∃ b, v = .bool b ∧ Q (.done (.ret (.bool (!b)))) s') E s) :
    wpAny (model prog w) A (Builtin.«object.__ne__» ⟨[.ref x, y], []⟩) Q E s := by
  unfold Builtin.«object.__ne__»
  repeat (first
    | with_reducible refine wpAny_cRoomFor hu ?_
    | (refine wpAny_bind (m := callSpecialIfBound? (.ref x) (Str.ofString "__eq__") [y])
        (PySem.W.ifBound_K X I hs hf (wpAny_mono hcall (fun r s' hr => by
          obtain ⟨b, rfl, hq⟩ := hr
          repeat (first | exact hq | exact wpAny_pure hq | exact wpAny_truthy_bool hq | (refine wpAny_bind (m := truthy (.bool _)) (wpAny_truthy_bool ?_)) | wp_step)) fun _ _ e => e)))
    | wp_step)
theorem rc_neO {Q : Value → Shared → Prop} (X : K.In s.heap) (I : PySem.W.InstAt s.heap x ox C od) (hs : PySem.W.findIn K (.ref C) "__eq__" = some (some (.ref f))) (hf : PySem.W.isFn K (.ref f) = true)
    (hne : PySem.W.findIn K (.ref C) "__ne__" = some (some (.builtin "object.__ne__"))) (hob : PySem.W.mroIn K C (.type "object") = some true) (hT : PySem.W.Looks (model prog w) s.heap (typeOf y) tb)
    (hn : PySem.W.notFirst K C tb = true) (hu : A.units + 1 < cLine)
    (hcall : wpAny (model prog w) A.in1 (call (.ref f) [.ref x, y]) (fun v s' => ∃ b, v = .bool b ∧ Q (.bool (!b)) s') E s) :
    wpAny (model prog w) A (richCompare .NotEq (.ref x) y) Q E s := by
  simp only [richCompare, cmpInfo_NotEq, oneThing_ref]
  refine wpAny_holding (wpAny_bind (wpAny_cRoomFor (Nat.lt_of_succ_lt hu) ?_))
  have hn' : (Value.ref C) = tb ∨ PySem.W.subIn K tb (.ref C) = some false := by
    rcases Bool.or_eq_true_iff.mp hn with e | e
    · exact .inl (beq_iff_eq.mp e).symm
    · exact .inr (beq_iff_eq.mp e)
  refine wpAny_bind (I.type.here (wpAny_bind (hT.here (first_no X hn' ?_))))
  simp only [Bool.false_eq_true, if_false, Bool.not_false, if_true]
  refine wpAny_bind ?_
  simp only [tryCompare]
  refine wpAny_bind (ifBound_b F.cmp_object.ne X I hne (wpAny_call (codeAny_call_builtin F.cmp_object.ne.plain F.cmpEntry_ne (PySem.W.check_slot F.cmpKind_ne F.cmpSplit_ne (I.type.andThen (PySem.W.looks_mroIn X hob)) (F.cmpArgs_ne _ _) (ne_entryO (A := A.in1) X I hs hf hu (wpAny_mono hcall (fun v s' hv => ?_) fun _ _ e => e))))))
  obtain ⟨b, rfl, hq⟩ := hv
  exact ⟨b, rfl, wpAny_pure (wpAny_pure hq)⟩
end
/-- the class at C has an own __eq__ -/
structure OwnEq (P : Program) (w : World) (K : PySem.W.Frag) (mg : Str → Option Value) (base : Heap) (k : Nat) (C : Addr) (sp : Sp) : Prop where
  ex : ∃ (f : Addr) (fd : FuncData) (ps : List Str), FnOk P w K mg base CX0 k f fd ps sp ∧ PySem.W.findIn K (.ref C) "__eq__" = some (some (.ref f)) ∧ PySem.W.isFn K (.ref f) = true ∧ Binds K fd ps []
  ne : PySem.W.findIn K (.ref C) "__ne__" = some (some (.builtin "object.__ne__"))
  ob : PySem.W.mroIn K C (.type "object") = some true
section
variable {X : Cx} {k j : Nat} {C : Addr} {sp : Sp} {K : PySem.W.Frag}
theorem op_eqO (hK : X.K = K) (c : OwnEq X.prog X.w K X.mg X.base k C sp) (hr : Room j X.A) (hk : k ≤ j) : OpR X (compareOp .Eq) (rEqO K C sp E0) := by
  subst hK
  obtain ⟨f, fd, ps, F, h1, h2, h3⟩ := c.ex
  exact op_eqO_ F h1 h2 h3 (hr.mono hk) pass0
theorem op_neO (hK : X.K = K) (c : OwnEq X.prog X.w K X.mg X.base k C sp) (hr : Room j X.A) (hk : k + 1 ≤ j) : OpR X (compareOp .NotEq) (rNeO K C sp E0) := by
  subst hK
  obtain ⟨f, fd, ps, F, h1, h2, h3⟩ := c.ex
  intro pins s σ H x y u v Q I rx ry h
  obtain ⟨a, dx, fs, t, rfl, ha, ty, nf, hsp⟩ := h
  have rx' := rx
  cases rx
  obtain ⟨mA, J, _⟩ := ins_get I.hok ha
  obtain ⟨od, J, _⟩ := J.look
  obtain ⟨P, kx, hP, _⟩ := kit_of I ry ty
  have hu := hr.units
  exact rc_neO I.kIn J h1 h2 c.ne c.ob (kx.ty _ _ I.kIn hP) nf (by omega) (own_call1 F h3 (hr.mono hk) pass0 I rx' ry hsp)
end
/-- what is no book -/
structure BkNo (K : PySem.W.Frag) (BK : Addr) (t : String) : Prop where
  nf : PySem.W.notFirst K BK (.type t) = true
  no : PySem.W.kitOne K (.type t) (.ref BK) = some false
/-- a book's type -/
structure BkTy (K : PySem.W.Frag) (BK : Addr) : Prop where
  cl : Cls K BK
  ha : PySem.W.findIn K (.ref BK) "__class__" = some (some (.builtin "object.__class__"))
  hn : PySem.W.specialIn K (.builtin "object.__class__") "__get__" = some (some (.builtin "getset_descriptor.__get__"))
  tk : PySem.W.takesIn K (.builtin "object.__class__") = some true
  ob : PySem.W.mroIn K BK (.type "object") = some true
  is : PySem.W.kitOne K (.ref BK) (.ref BK) = some true
theorem BkTy.ty {K : PySem.W.Frag} {BK : Addr} (T : BkTy K BK) {H : Hp} {a dx : Addr} {fs : List (Str × V)} (e : H a = some (.ins BK dx fs)) : TyX K H (.ref a) (.ref BK) := .base (.ins e T.cl T.ha T.hn T.tk T.ob)
theorem nf_self {K : PySem.W.Frag} {C : Addr} : PySem.W.notFirst K C (.ref C) = true := by simp [PySem.W.notFirst]
/-- __eq__ -/
def spBEq (K : PySem.W.Frag) (BK : Addr) : Sp := fun vs H Q _ => ∃ (b D : Addr) (n : Nat) (t : Tr n) (y : V), vs = [.ref b, y] ∧ BkTr BK H b D n t ∧
  ((∃ (c D' : Addr) (n' : Nat) (t' : Tr n'), y = .ref c ∧ BkTr BK H c D' n' t' ∧ Q (.bl (eqMs (Tr.marks n [] t) (Tr.marks n' [] t'))) H) ∨ (∃ ty, TyX K H y (.type ty) ∧ BkNo K BK ty ∧ Q (.bl false) H))
end L2.G42

set_option Elab.async false
set_option linter.all false
set_option maxRecDepth 100000
set_option maxHeartbeats 4000000
set_option pp.maxSteps 500
namespace K71
open PySem L2 L2.G42
open Evl (pss_cut)
open PyProof.Rows (boot_isinstance boot_str)
abbrev sGEq : Stmt := inClass (top 9) 5
theorem scGEq : FnScope ["self", "other"] ["self", "other"] (defScope sGEq) := ⟨rfl, rfl, rfl, by decide +kernel, rfl, by decide +kernel, by decide +kernel⟩
/-- __eq__: by the texts; nothing else is a goal -/
def spGEq (K : PySem.W.Frag) (G : Addr) : Sp := fun vs H Q _ => ∃ (g c : Addr) (k : Str) (p : List Str) (e : Bool) (y : V), vs = [.ref g, y] ∧ GlAt K G H g c k p e ∧
  ((∃ (g2 c2 : Addr) (k2 : Str) (p2 : List Str) (e2 : Bool), y = .ref g2 ∧ GlAt K G H g2 c2 k2 p2 e2 ∧ ∀ H' : Hp, But (fun _ => False) H H' → Q (.bl (decide (goalT k p e = goalT k2 p2 e2))) H') ∨ (∃ ty, TyX K H y (.type ty) ∧ BkNo K G ty ∧ Q (.bl false) H))
section
variable {P : Program} {w : World} {K : PySem.W.Frag} {mg : Str → Option Value} {base : Heap} {G : Addr}
theorem ok_geq {f : Addr} {fd : FuncData} (F : Fun K "__eq__" "Goal.__eq__" sGEq f fd) (T : Bn mg) (Gy : BkTy K G) (gl : mg "Goal" = some (.ref G)) (cStr : Own1 P w K mg base 2 G "__str__" (spGStr K G)) : FnOk P w K mg base CX0 5 f fd ["self", "other"] (spGEq K G) := by
  refine F.ok scGEq (fun vs H Q E h => ?_) (fun cdv A outer s H vs Q E hr h => ?_)
  · obtain ⟨g, c, k, p, e, y, rfl, _⟩ := h
    rfl
  · obtain ⟨g, c, k, p, e, y, rfl, ga, kk⟩ := h
    refine ⟨_, (pss_cons (ps_if (pt_not (pt_val (pe_callB call_isi (by rfl) T.isi boot_isinstance (pa_cons (pv 1) (pa_cons (pe_glob (v := .ref G) rfl gl rfl) pa_nil))))) (pss_one (ps_ret pe_bl)) pss_nil)
      (pss_one (ps_ret (pe_cmpR op_eq (pe_callTy (cr_strO cStr hr (by decide)) (by rfl) T.str boot_str (pa_cons (pv 0) pa_nil)) (pe_callTy (cr_strO cStr hr (by decide)) (by rfl) T.str boot_str (pa_cons (pv 1) pa_nil)) (nomark _))))), ?_⟩
    obtain ⟨dx, ob⟩ := ga.ob
    rcases kk with ⟨g2, c2, k2, p2, e2, rfl, ga2, kk⟩ | ⟨ty, hty, no, kk⟩
    · obtain ⟨dy, oc⟩ := ga2.ob
      refine ⟨_, rfl, .ref g2, .ref G, _, _, _, rfl, .own _, Gy.ty oc, Gy.is, _, rfl, iteF ?_⟩
      refine ⟨_, rfl, g, dx, _, rfl, ob, g, c, k, p, e, rfl, ga, fun H1 g1 => ⟨_, rfl, _, rfl, g2, dy, _, rfl, g1 _ _ oc id, g2, c2, k2, p2, e2, rfl, ga2.grow g1, fun H2 g22 => ⟨_, rfl, rfl, ?_⟩⟩⟩
      have := kk H2 (g1.trans g22)
      have ed : decide (V.str (goalT k p e) = V.str (goalT k2 p2 e2)) = decide (goalT k p e = goalT k2 p2 e2) := by
        by_cases h : goalT k p e = goalT k2 p2 e2
        · rw [decide_eq_true h, decide_eq_true (by rw [h])]
        · rw [decide_eq_false h, decide_eq_false (fun q => h (by injection q))]
      show Q (.bl (decide (V.str (goalT k p e) = V.str (goalT k2 p2 e2)))) H2
      rw [ed]
      exact this
    · refine ⟨_, rfl, y, .ref G, _, _, _, rfl, .own _, hty, no.no, _, rfl, iteT ?_⟩
      exact kk
end
end K71

set_option Elab.async false
set_option linter.all false
set_option maxRecDepth 100000
set_option maxHeartbeats 4000000
set_option pp.maxSteps 800
namespace K71
open PySem L2 L2.G42
open Evl (pss_cut)
open _root_.ClX (CRead CVal pe_cval)
open PyProof.Rows (boot_isinstance boot_str)
abbrev sGRead : Stmt := inClass (top 9) 3
abbrev NGRead : List Str := ["cls", "text", "words", "at_end", "place"]
theorem scGRead : FnScope NGRead ["cls", "text"] (defScope sGRead) := ⟨rfl, rfl, rfl, by decide +kernel, rfl, by decide +kernel, by decide +kernel⟩
/-- the constants of Goal -/
structure GlK (K : PySem.W.Frag) (G : Addr) (mc : Value) : Prop where
  rd : CRead K G mc
  kinds : ∃ a, CVal K G mc "KINDS" (.ref a) (.ref a) ∧ ∀ H : Hp, SqT K H a (kindsG.map V.str)
  states : ∃ a, CVal K G mc "STATES" (.ref a) (.ref a) ∧ ∀ H : Hp, SqT K H a (statesG.map V.str)
/-- Goal.read -/
def spGRead (K : PySem.W.Frag) (G B : Addr) : Sp := fun vs H Q E => ∃ (x : V) (d : PyData), vs = [.ref G, x] ∧ Dp K H x d ∧ SeqAt.shaped d = true ∧
  (∀ z, d = .str z → z.length ≤ 200) ∧
  ((∀ z, d = .str z → goalP z = none) → ∀ (e : Addr) (H' : Hp), H e = none → H' e = some (.xd [("goal", x)]) → But (fun _ => False) H H' → E (.ref B) (some e) H') ∧
  ∀ z k p e, d = .str z → goalP z = some (k, p, e) → ∀ (g c : Addr) (H' : Hp), H g = none → GlAt K G H' g c k p e → But (fun _ => False) H H' → Q (.ref g) H'
/-- makers of goals -/
structure GlM (P : Program) (w : World) (K : PySem.W.Frag) (mg : Str → Option Value) (base : Heap) (G et : Addr) : Prop where
  emp : ∀ H : Hp, SqT K H et []
  one : NwV P w K mg base 1 G (spGInit G) [.ref et, .bl false]
  two : NwN P w K mg base 1 G 2 ["at_end"] (spGInit G) (fun vs zs => vs ++ zs)
theorem place_count {q : List Nat} {p : List Str} (h : placeP q = some p) : 2 * p.length + 4 ≤ q.length := by
  rw [← place_text h]
  unfold placeT
  have : ∀ l : List Str, 2 * l.length ≤ ((l.map fun k => 91 :: (k.cps.toList ++ [93])).flatten).length := by
    intro l
    induction l with
    | nil => simp
    | cons x l ih =>
      rw [List.map_cons, List.flatten_cons, List.length_append, List.length_cons, List.length_cons, List.length_append, List.length_cons, List.length_nil]
      omega
  have h2 := this p
  rw [List.length_append, show rootL.length = 4 from rfl]
  omega
theorem key_short {x : Str} (h : isKey x = true) : x.length ≤ 8 := by
  unfold isKey at h
  simp only [Bool.and_eq_true, decide_eq_true_eq] at h
  omega
theorem goalW_len {ws : List (List Nat)} (h : ¬ (ws.length = 2 ∨ ws.length = 3)) : goalW ws = none := by
  match ws, h with
  | [], _ => rfl
  | [_], _ => rfl
  | [_, _], h => exact absurd (.inl rfl) h
  | [_, _, _], h => exact absurd (.inr rfl) h
  | _ :: _ :: _ :: _ :: _, _ => rfl
theorem goalW_kind {k q : List Nat} {r : List (List Nat)} (h : kindsG.contains (tx k) = false) : goalW (k :: q :: r) = none := by
  match r with
  | [] =>
    show (if kindsG.contains (tx k) = true then _ else none) = none
    rw [if_neg (by rw [h]; exact Bool.false_ne_true)]
  | [e] =>
    show (if statesG.contains (tx k) = true ∧ tx e = "end" then _ else none) = none
    rw [if_neg (fun q => by rw [states_kinds q.1] at h; cases h)]
  | _ :: _ :: _ => rfl
section
variable {P : Program} {w : World} {K : PySem.W.Frag} {mg : Str → Option Value} {base : Heap} {G B et : Addr} {mc : Value}
theorem ok_gread {f : Addr} {fd : FuncData} (F : Fun K "read" "Goal.read" sGRead f fd) (T : Bn mg) (Gk : GlK K G mc) (er : Er P w K mg base 1 "BadGoal" B "goal") (M : GlM P w K mg base G et) (cPl : Cl P w K mg base 2 "place_of" spPlOf []) :
    FnOk P w K mg base (L2.CX P w) 3 f fd ["cls", "text"] (spGRead K G B) := by
  refine F.okX scGRead (fun vs H Q E h => ?_) (fun cdv A outer s H vs Q E hr h => ?_)
  · obtain ⟨x, d, rfl, _⟩ := h
    rfl
  · obtain ⟨x, d, rfl, hd, sh, hz, kE, kQ⟩ := h
    obtain ⟨ka, ck, hk⟩ := Gk.kinds
    obtain ⟨sa, cs, hs⟩ := Gk.states
    refine ⟨_, (pss_cut (ps_if (pt_cmpR (op_eqD hr.units) (pv 1) pe_str (nomark _)) (pss_one (ps_ret (pe_mkV (i := 0) M.one hr (by decide) rfl (.inl rfl) (pa_cons pe_str pa_nil)))) pss_nil)
      (pss_cut (ps_set (i := 2) scGRead.nd rfl (.inl rfl) (pe_ifExp (pt_val (pe_callB call_isi (by rfl) T.isi boot_isinstance (pa_cons (pv 1) (pa_cons (pe_bltn (v := .ty "str") (by rfl) T.str boot_str rfl) pa_nil)))) (pe_split (pv 1) pe_str) (pe_lst pa_nil)))
      (pss_cut (ps_if (PW.pt (pw_or (pt_cmpR op_notIn_seq (pe_callB call_len_seq (by rfl) T.len PySem.boot_len (pa_cons (pv 2) pa_nil)) (pe_tup (pa_cons pe_int (pa_cons pe_int pa_nil))) rfl) (pw_or1 (pt_cmpR op_notIn_seq (pe_ix ix_list (pv 2) pe_int (fun _ _ => rfl)) (pe_cval (pv 0)) rfl)))) (pss_one (ps_raise1 er rfl (takes_of rfl rfl rfl rfl) hr (by decide) rfl (pv 1))) pss_nil)
      (pss_cons (ps_set (i := 3) scGRead.nd rfl (.inl rfl) (pe_cmpR op_eq (pe_callB call_len_seq (by rfl) T.len PySem.boot_len (pa_cons (pv 2) pa_nil)) pe_int (nomark _)))
      (pss_cut (ps_if (PW.pt (pw_and (pt_val (pv 3)) (pw_and1 (PW.pt (pw_or (pt_cmpR op_ne (pe_ix ix_list (pv 2) pe_int (fun _ _ => rfl)) pe_str (nomark _)) (pw_or1 (pt_cmpR op_notIn_seq (pe_ix ix_list (pv 2) pe_int (fun _ _ => rfl)) (pe_cval (pv 0)) rfl))))))) (pss_one (ps_raise1 er rfl (takes_of rfl rfl rfl rfl) hr (by decide) rfl (pv 1))) pss_nil)
      (pss_cons (ps_set (i := 4) scGRead.nd rfl (.inl rfl) (pe_c cPl hr (by decide) rfl (pa_cons (pe_ix ix_list (pv 2) pe_int (fun _ _ => rfl)) pa_nil)))
      (pss_cut (ps_if (pt_cmpR op_isN (pv 4) pe_non rfl) (pss_one (ps_raise1 er rfl (takes_of rfl rfl rfl rfl) hr (by decide) rfl (pv 1))) pss_nil)
      (pss_one (ps_ret (pe_mkNV (i := 0) M.two hr (by decide) rfl (.inl rfl) (pa_cons (pe_ix ix_list (pv 2) pe_int (fun _ _ => rfl)) (pa_cons (pv 4) pa_nil)) (pk_cons (pv 3) pk_nil))))))))))), ?_⟩
    have etup : ∀ (H : Hp), True := fun _ => trivial
    have eqs : ∀ z : Str, PyData.eqv (.str z) (.str "shown") = decide (z = "shown") := fun z => by
      show (z == ("shown" : Str)) = _
      by_cases e : z = "shown"
      · rw [decide_eq_true e]; exact beq_iff_eq.mpr e
      · rw [decide_eq_false e]; exact beq_eq_false_iff_ne.mpr e
    refine ⟨fun σ H1 => σ = [some (.ref G), some x, none, none, none] ∧ H1 = H ∧ ∀ z, d = .str z → z ≠ "shown", ?_, ?_⟩
    · refine ⟨_, rfl, d, .str "shown", hd, .str _, sh, by decide +kernel, _, rfl, ?_⟩
      by_cases hsn : d = .str "shown"
      · subst hsn
        refine iteT ⟨rfl, ?_⟩
        intro g dx hg hdx ne
        refine ⟨g, dx, .str "shown", .ref et, .bl false, rfl, upd_same, rfl, ?_⟩
        refine kQ "shown" "shown" [] false rfl rfl g et _ hg ⟨⟨dx, upd_same⟩, M.emp _, by simp, by simp, by decide +kernel⟩ ?_
        intro b o hb _
        rw [upd_ne (ne_of_none hb hg), upd_ne (ne_of_none hb hg), upd_ne (ne_of_none hb hdx)]
        exact hb
      · have hf : PyData.eqv d (.str "shown") = false := by
          cases d with
          | str z => rw [eqs, decide_eq_false (fun e => hsn (by rw [e]))]
          | _ => rfl
        rw [hf]
        exact iteF ⟨rfl, rfl, fun z e h => hsn (by rw [e, h])⟩
    rintro σ H1 ⟨rfl, e1, hns⟩
    cases e1
    refine ⟨fun σ H2 => ∃ (W : Addr) (ws : List (List Nat)), σ = [some (.ref G), some x, some (.ref W), none, none] ∧ H2 W = some (.lst ((ws.map tx).map V.str)) ∧ But (fun _ => False) H H2 ∧ (∀ z, d = .str z → goalP z = goalW ws ∧ ∀ q ∈ ws, q.length ≤ 200) ∧ (isStr d = false → ws = []) ∧ ws.length ≤ 1001, ?_, ?_⟩
    · refine ⟨_, rfl, x, .ty "str", _, _, _, rfl, .ty _, ty_d hd, kit_isStr (Dp.nd hd), _, rfl, ?_⟩
      cases d with
      | str z =>
        cases hd
        have hzz := hz z rfl
        refine iteT ⟨_, rfl, ⟨_, rfl⟩, z, _, rfl, rfl, by decide +kernel, Nat.le_trans (Nat.add_le_add_right (Nat.le_trans hzz (by decide : 200 ≤ 1000)) 2) (by decide), fun W hW => ?_⟩
        have es : Txt.split z " " = (splC 32 z.cps.toList).map tx := by
          rw [show Str.ofString " " = tx [32] by decide +kernel]
          exact split_one z (by decide)
        have hlz : z.cps.toList.length = z.length := by show _ = z.cps.size; simp
        refine ⟨W, splC 32 z.cps.toList, rfl, by rw [upd_same, es], But.new hW, ?_, (fun h => nomatch h), ?_⟩
        · intro z' e'
          cases e'
          refine ⟨?_, fun q hq => ?_⟩
          · unfold goalP
            rw [if_neg (hns z rfl)]
          · have := splC_short 32 z.cps.toList q hq
            omega
        · have := splC_len 32 z.cps.toList
          omega
      | _ =>
        refine iteF ⟨szle (by simp), fun W hW => ⟨W, [], rfl, upd_same, But.new hW, ?_, fun _ => rfl, by simp⟩⟩
        intro z e
        cases e
    rintro σ H2 ⟨W, ws, rfl, hW, g2, hgo, hem, lws⟩
    have bad : goalW ws = none → ∀ H3 : Hp, But (fun _ => False) H H3 → ∀ d, H3 d = none → E (.ref B) (some d) (upd H3 d (.xd [("goal", x)])) := fun hg H3 g3 d hd => kE (fun z hz => by rw [(hgo z hz).1, hg]) d _ (g3.free hd) upd_same (g3.trans (But.new hd))
    refine ⟨fun σ H3 => σ = [some (.ref G), some x, some (.ref W), none, none] ∧ But (fun _ => False) H2 H3 ∧ ∃ (k q : List Nat) (r : List (List Nat)), ws = k :: q :: r ∧ r.length ≤ 1 ∧ kindsG.contains (tx k) = true, ?_, ?_⟩
    · refine ⟨_, rfl, W, _, rfl, .inl (SqL.of hW), szle (by simp), fun tp htp => ⟨tp, _, rfl, .inr (.inl (.inl upd_same)), rfl, rfl, _, rfl, ?_⟩⟩
      have g3 : But (fun _ => False) H2 (upd H2 tp (.tup [.int 2, .int 3])) := But.new htp
      have hW3 := g3 _ _ hW id
      show if (!inV (.int ((ws.map tx).map V.str).length) ([2, 3].map V.int)) = true then _ else _
      rw [inV_int, List.length_map, List.length_map]
      by_cases hl : ((ws.length : Nat) : Int) ∈ ([2, 3] : List Int)
      · rw [decide_eq_true hl]
        have hl' : ws.length = 2 ∨ ws.length = 3 := by
          simp at hl
          omega
        obtain ⟨k, q, r, rfl⟩ : ∃ k q r, ws = k :: q :: r := by
          match ws, hl' with
          | [], h => simp at h
          | [_], h => simp at h
          | k :: q :: r, _ => exact ⟨k, q, r, rfl⟩
        refine iteF ⟨_, rfl, W, _, _, _, rfl, rfl, SqL.of hW3, atI_nat (j := 0) rfl, _, rfl, G, mc, _, _, rfl, Gk.rd, ck, ka, _, rfl, .inr (hk _), rfl, flat_strs _, _, rfl, ?_⟩
        show if (!inV (.str (tx k)) (kindsG.map V.str)) = true then _ else _
        rw [inV_str]
        cases hc : kindsG.contains (tx k) with
        | true =>
          refine iteF ⟨rfl, g3, k, q, r, rfl, ?_, hc⟩
          rw [List.length_cons, List.length_cons] at hl'
          omega
        | false =>
          exact iteT ⟨_, rfl, err_one (bad (goalW_kind hc) _ (g2.trans g3))⟩
      · rw [decide_eq_false hl]
        refine iteT ⟨_, rfl, err_one (bad (goalW_len fun h => hl ?_) _ (g2.trans g3))⟩
        rcases h with h | h <;> rw [h] <;> decide
    rintro σ H3 ⟨rfl, g3, k, q, r, rfl, lr, hc⟩
    have hd' : ∃ z, d = .str z := by
      cases d with
      | str z => exact ⟨z, rfl⟩
      | _ => exact nomatch hem rfl
    obtain ⟨z, rfl⟩ := hd'
    cases hd
    obtain ⟨hgz, hqz⟩ := hgo z rfl
    have hW3 := g3 _ _ hW id
    refine ⟨_, rfl, W, _, rfl, .inl (SqL.of hW3), rfl, ?_⟩
    have e3 : decide (V.int ((((k :: q :: r).map tx).map V.str).length : Nat) = V.int 3) = decide (r.length = 1) := by
      rw [List.length_map, List.length_map, List.length_cons, List.length_cons]
      by_cases h : r.length = 1
      · rw [decide_eq_true h, h]; rfl
      · rw [decide_eq_false h, decide_eq_false]
        intro e
        injection e with e
        omega
    show ∃ M, _
    rw [e3]
    refine ⟨fun σ H4 => σ = [some (.ref G), some (.str z), some (.ref W), some (.bl (decide (r.length = 1))), none] ∧ H4 = H3 ∧ (∀ p, placeP q = some p → goalW (k :: q :: r) = some (tx k, p, decide (r.length = 1))) ∧ (placeP q = none → goalW (k :: q :: r) = none), ?_, ?_⟩
    · match r, lr with
      | [], _ =>
        refine ⟨_, rfl, _, rfl, iteF ⟨rfl, rfl, fun p hp => ?_, fun hp => ?_⟩⟩
        · show (if kindsG.contains (tx k) = true then (placeP q).map fun p => (tx k, p, false) else none) = _
          rw [if_pos hc, hp]
          rfl
        · show (if kindsG.contains (tx k) = true then (placeP q).map fun p => (tx k, p, false) else none) = _
          rw [if_pos hc, hp]
          rfl
      | [e], _ =>
        have eW : goalW [k, q, e] = if statesG.contains (tx k) = true ∧ tx e = "end" then (placeP q).map fun p => (tx k, p, true) else none := rfl
        refine ⟨_, rfl, _, rfl, iteT ⟨_, rfl, W, _, _, _, rfl, rfl, SqL.of hW3, atI_nat (j := 2) rfl, rfl, _, rfl, ?_⟩⟩
        by_cases he : tx e = "end"
        · rw [decide_eq_true (show V.str (tx e) = V.str "end" by rw [he])]
          refine iteF ⟨_, rfl, W, _, _, _, rfl, rfl, SqL.of hW3, atI_nat (j := 0) rfl, _, rfl, G, mc, _, _, rfl, Gk.rd, cs, sa, _, rfl, .inr (hs _), rfl, flat_strs _, _, rfl, ?_⟩
          show if (!inV (.str (tx k)) (statesG.map V.str)) = true then _ else _
          rw [inV_str]
          cases hst : statesG.contains (tx k) with
          | true =>
            rw [if_pos ⟨hst, he⟩] at eW
            refine iteF ⟨rfl, rfl, fun p hp => ?_, fun hp => ?_⟩
            · rw [eW, hp]; rfl
            · rw [eW, hp]; rfl
          | false =>
            rw [if_neg (fun y => by rw [hst] at y; cases y.1)] at eW
            exact iteT ⟨_, rfl, err_one (bad eW _ (g2.trans g3))⟩
        · rw [decide_eq_false (show ¬ V.str (tx e) = V.str "end" from fun y => he (by injection y))]
          rw [if_neg (fun y => he y.2)] at eW
          exact iteT (iteT ⟨_, rfl, err_one (bad eW _ (g2.trans g3))⟩)
    rintro σ H4 ⟨rfl, e4, hpS, hpN⟩
    cases e4
    refine ⟨_, rfl, W, _, _, _, rfl, rfl, SqL.of hW3, atI_nat (j := 1) rfl, tx q, rfl, ?_, ?_, ?_⟩
    · rw [tx_len]; exact Nat.le_trans (hqz q (List.mem_cons_of_mem _ List.mem_cons_self)) (by decide)
    · rw [tx_cps]
      intro hp H5 g5
      refine ⟨fun σ H6 => False, ⟨_, rfl, rfl, _, rfl, iteT ⟨_, rfl, err_one (bad (hpN hp) _ ((g2.trans g3).trans g5))⟩⟩, fun _ _ h => h.elim⟩
    · rw [tx_cps]
      intro p hp c H5 hc5 hcp g5
      refine ⟨fun σ H6 => σ = [some (.ref G), some (.str z), some (.ref W), some (.bl (decide (r.length = 1))), some (.ref c)] ∧ H6 = H5, ⟨_, rfl, rfl, _, rfl, iteF ⟨rfl, rfl⟩⟩, ?_⟩
      rintro σ H6 ⟨rfl, e6⟩
      cases e6
      have g05 := (g2.trans g3).trans g5
      refine ⟨rfl, _, rfl, W, _, _, _, rfl, rfl, SqL.of (g5 _ _ hW3 id), atI_nat (j := 0) rfl, _, rfl, _, rfl, rfl, rfl, ?_⟩
      intro g dx hg hdx ne
      refine ⟨g, dx, .str (tx k), .ref c, .bl (decide (r.length = 1)), rfl, upd_same, rfl, ?_⟩
      have gp := hpS p hp
      rw [← hgz] at gp
      have ks := goal_keys gp
      have g6 : But (fun _ => False) H5 (upd (upd (upd H5 dx (.own g)) g (.ins G dx [])) g (.ins G dx (gfs (.str (tx k)) (.ref c) (.bl (decide (r.length = 1)))))) := fun b o hb _ => by
        rw [upd_ne (ne_of_none hb hg), upd_ne (ne_of_none hb hg), upd_ne (ne_of_none hb hdx)]
        exact hb
      refine kQ z (tx k) p (decide (r.length = 1)) rfl gp g c _ (g05.free hg) ⟨⟨dx, upd_same⟩, .inl (.inl (g6 _ _ hcp id)), ?_, fun x hx => key_short (ks x hx), ?_⟩ (g05.trans g6)
      · have := place_count hp
        have := hqz q (List.mem_cons_of_mem _ List.mem_cons_self)
        omega
      · rw [tx_len]; exact Nat.le_trans (hqz k List.mem_cons_self) (by decide)
end
end K71

set_option Elab.async false
set_option linter.all false
set_option maxRecDepth 100000
set_option maxHeartbeats 4000000
set_option pp.maxSteps 800
namespace K71
open PySem L2 L2.G42
open Evl (pss_cut)
abbrev NLKey : List Str := ["_law_word_here", "_law_letters", "_law_sign"]
theorem scLKey : FnScope NLKey ["_law_word_here"] (defScope sLKey) := ⟨rfl, rfl, rfl, by decide +kernel, rfl, by decide +kernel, by decide +kernel⟩
abbrev sLWord : Stmt := top 15
abbrev NLWord : List Str := ["_law_pot_here", "_law_turn"]
theorem scLWord : FnScope NLWord ["_law_pot_here"] (defScope sLWord) := ⟨rfl, rfl, rfl, by decide +kernel, rfl, by decide +kernel, by decide +kernel⟩
/-- a word of one to eight letters -/
def isWd (x : Str) : Bool := decide (1 ≤ x.length) && decide (x.length ≤ 8) && x.cps.toList.all letter
def spLWord : Sp := fun vs H Q _ => ∃ a : Addr, vs = [.ref a] ∧ SrcAt H a ∧ ∀ (x : Str) (H' : Hp), isWd x = true → SrcAt H' a → But (· = a) H H' → Q (.str x) H'
section
variable {P : Program} {w : World} {K : PySem.W.Frag} {mg : Str → Option Value} {base : Heap}
theorem ok_lkey {f : Addr} {fd : FuncData} (F : Fun K "_law_is_key" "_law_is_key" sLKey f fd) (T : Bn mg) (cKept : Cl P w K mg base 1 "_law_kept" spKept []) : FnOk P w K mg base CX0 2 f fd ["_law_word_here"] spIsKey := by
  refine F.ok scLKey (fun vs H Q E h => ?_) (fun cdv A outer s H vs Q E hr h => ?_)
  · obtain ⟨x, rfl, _⟩ := h
    rfl
  · obtain ⟨x, rfl, hx, k⟩ := h
    have hx' : x.length ≤ sizeLine := Nat.le_trans hx (by decide)
    refine ⟨_, (pss_cons (ps_set (i := 1) scLKey.nd rfl (.inr rfl) pe_str)
      (pss_one (ps_ret (pe_and (pe_chain op_le op_le pe_int (pe_callB call_len_str (by rfl) T.len PySem.boot_len (pa_cons (pv 0) pa_nil)) pe_int)
        (pe_and (pe_callB (cr_all rfl) (by rfl) T.all boot_all (pa_cons (pe_lc (own := [("_law_sign", 2)]) (g := gName 2) (tt := tYes) rfl scLKey.nd (pi_str (pv 0)) (blkOk_by (own := [("_law_sign", 2)]) (N := NLKey) (sc := defScope sLKey) (by decide +kernel))
    (fun _ _ _ _ _ => (pg_name (i := 2) scLKey.nd rfl (.inl rfl))) (fun _ _ _ _ _ => pts_nil) (fun _ _ _ _ _ => (pe_cmpR op_in_sign (pv 2) (pv 1) rfl))) pa_nil))
        (pe_one (pe_cmpR op_notIn_seq (pv 0) (pe_c0 cKept hr (by decide) rfl) rfl))))))), ?_⟩
    have bad : (decide (1 ≤ x.length) && decide (x.length ≤ 8)) = false → isKey x = false := fun h => by
      unfold isKey
      rw [h]
      rfl
    refine ⟨_, rfl, x, rfl, hx', _, _, rfl, rfl, _, rfl, ite2 (fun h1 => ?_) (fun h1 => ?_)⟩
    · have h1' : 1 ≤ x.length := by
        have := of_decide_eq_true h1
        omega
      refine ⟨_, _, rfl, rfl, _, rfl, ?_⟩
      by_cases h2 : (x.length : Int) ≤ 8
      · have h2' : x.length ≤ 8 := by omega
        rw [decide_eq_true h2]
        refine iteT ⟨_, rfl, x, rfl, fun D hD => lc_it walk_str (fun i H1 => H1 D = some (.lst (((x.cps.toList.take i).map letter).map V.bl)) ∧ But (fun _ => False) H H1) ⟨upd_same, But.new hD⟩ (fun _ _ _ _ => trivial) (fun i v H1 H2 hi q hy => ?_) (fun H1 q => ?_)⟩
        · obtain ⟨rfl, c, hc, rfl⟩ := hy
          have hc' : x.cps.toList[i]? = some c := by
            rw [← hc]
            exact Array.getElem?_toList
          refine ⟨rfl, _, rfl, _, rfl, c, lettersS, rfl, rfl, ?_⟩
          rw [letters_mem]
          refine ⟨_, q.1, ?_, ?_, q.2.fresh hD⟩
          · have hxs : x.cps.size = x.length := rfl
            simp only [List.length_map, List.length_take]
            exact szl (by omega)
          · rw [upd_same, List.take_add_one, hc', List.map_append, List.map_append]
            rfl
        · have e2 : x.cps.toList.take x.cps.size = x.cps.toList := by
            rw [← Array.length_toList]
            exact List.take_length
          rw [e2] at q
          refine ⟨D, _, rfl, SqL.of q.1, _, rfl, ?_⟩
          have e3 : (x.cps.toList.map letter).all id = x.cps.toList.all letter := by rw [List.all_map]; rfl
          rw [e3]
          have e : isKey x = (x.cps.toList.all letter && !reserved.contains x) := by
            unfold isKey
            rw [decide_eq_true h1', decide_eq_true h2', Bool.and_comm (x.cps.toList.all letter)]
            rfl
          rw [e] at k
          cases hall : x.cps.toList.all letter with
          | true =>
            rw [hall] at k
            refine iteT ⟨_, rfl, rfl, fun r H3 hr3 hl3 g3 => ⟨r, _, rfl, .inl (SqL.of hl3), rfl, flat_strs _, ?_⟩⟩
            show Q (.bl (!inV (.str x) (reserved.map V.str))) H3
            rw [inV_str]
            exact k H3 (q.2.trans g3)
          | false =>
            rw [hall] at k
            exact iteF (k H1 q.2)
      · rw [decide_eq_false h2]
        refine iteF ?_
        have e := bad (by rw [decide_eq_false (fun q : x.length ≤ 8 => h2 (by omega)), Bool.and_false])
        rw [e] at k
        exact k H But.refl
    · refine ⟨_, rfl, iteF ?_⟩
      have e := bad (by rw [decide_eq_false (fun q : 1 ≤ x.length => h1 (decide_eq_true (by omega))), Bool.false_and])
      rw [e] at k
      exact k H But.refl
theorem join_tx (l : List Nat) : Txt.join (Str.ofString "") (l.map fun c => tx [c]) = tx l := by
  apply str_ext
  rw [tx_cps, TL.join_eq]
  have := TL.tl_join (Str.ofString "") (l.map fun c => tx [c])
  have e0 : TL.tl (Str.ofString "") = [] := by decide +kernel
  rw [e0, joinL_nil, List.map_map] at this
  have e1 : (TL.tl ∘ fun c => tx [c]) = fun c => [c] := by
    funext c
    show (tx [c]).cps.toList = [c]
    exact tx_cps _
  rw [e1] at this
  refine this.trans ?_
  induction l with
  | nil => rfl
  | cons c l ih =>
    rw [List.map_cons, List.flatten_cons]
    show c :: (l.map fun c => [c]).flatten = c :: l
    congr 1
    clear this
    clear ih
    induction l with
    | nil => rfl
    | cons d m ih => rw [List.map_cons, List.flatten_cons, ih]; rfl
theorem ok_lword {f : Addr} {fd : FuncData} (F : Fun K "_law_word" "_law_word" sLWord f fd) (T : Bn mg) (cDraw : Cl P w K mg base 1 "_law_draw" spTake []) (cOf : Cl P w K mg base 2 "_law_of" spOfS []) : FnOk P w K mg base CX0 3 f fd ["_law_pot_here"] spLWord := by
  refine F.ok scLWord (fun vs H Q E h => ?_) (fun cdv A outer s H vs Q E hr h => ?_)
  · obtain ⟨a, rfl, _⟩ := h
    rfl
  · obtain ⟨a, rfl, S, k⟩ := h
    refine ⟨_, (pss_one (ps_ret (pe_join pe_str (pe_lc (own := [("_law_turn", 1)]) (g := gName 1) (tt := tYes) rfl scLWord.nd (pi_range1 (by rfl) T.range (pa_cons (pe_op op_add pe_int (pe_c cDraw hr (by decide) rfl (pa_cons (pv 0) (pa_cons pe_int pa_nil)))) pa_nil)) (blkOk_by (own := [("_law_turn", 1)]) (N := NLWord) (sc := defScope sLWord) (by decide +kernel))
      (fun _ _ _ _ _ => (pg_name (i := 1) scLWord.nd rfl (.inl rfl))) (fun _ _ _ _ _ => pts_nil) (fun _ _ _ _ _ => (pe_c cOf hr (by decide) rfl (pa_cons (pv 0) (pa_cons pe_str pa_nil)))))))), ?_⟩
    refine ⟨⟨_, rfl⟩, _, rfl, a, 8, rfl, by decide, by decide, S, fun r c st n r0 r1 => ?_⟩
    obtain ⟨q, rfl⟩ := Int.eq_ofNat_of_zero_le r0
    refine ⟨_, _, rfl, rfl, _, rfl, by omega, by omega, fun L hL => ?_⟩
    have hLa : L ≠ a := (ne_of_none upd_same hL).symm
    have hL0 : H L = none := by rw [upd_ne hLa] at hL; exact hL
    refine lc_range (lo := 0) (n := (1 + (q : Int)).toNat) (fun i H1 => ∃ l : List Nat, H1 L = some (.lst ((l.map fun c => tx [c]).map V.str)) ∧ l.length = i ∧ l.all letter = true ∧ SrcAt H1 a ∧ But (· = a) H H1)
      ⟨[], upd_same, rfl, rfl, ⟨_, _, _, by rw [upd_ne hLa.symm]; exact upd_same⟩, (But.at (S := (· = a)) rfl).fresh hL0⟩ (fun i H1 hi h => ?_) (fun H1 h => ?_)
    · obtain ⟨l, h1, h2, h3, h4, h5⟩ := h
      refine ⟨rfl, _, rfl, a, lettersS, rfl, h4, by decide +kernel, by decide +kernel, fun j ch c st n hj => ?_⟩
      refine ⟨_, by rw [upd_ne hLa]; exact h1, szl (by rw [List.length_map, List.length_map]; omega), l ++ [ch], ?_, by rw [List.length_append, h2]; rfl, ?_, ⟨_, _, _, by rw [upd_ne hLa.symm]; exact upd_same⟩, (h5.trans (But.at rfl)).fresh hL0⟩
      · rw [upd_same, List.map_append, List.map_append]
        rfl
      · have hm : ch ∈ lettersS.cps.toList := List.mem_of_getElem? hj
        have hl : letter ch = true := by
          have := letters_mem ch
          rw [← this]
          exact decide_eq_true hm
        rw [List.all_append, h3, List.all_cons, hl]
        rfl
    · obtain ⟨l, h1, h2, h3, h4, h5⟩ := h
      refine ⟨_, L, _, rfl, rfl, .inl (SqL.of h1), ?_, ?_⟩
      · have e : ∀ l : List Nat, ((l.map fun c => tx [c]).map (·.length)).sum = l.length := by
          intro l
          induction l with
          | nil => rfl
          | cons c l ih =>
            rw [List.map_cons, List.map_cons, List.sum_cons, ih, tx_len, List.length_cons, List.length_cons, List.length_nil]
            omega
        rw [e, show (Str.ofString "").length = 0 by decide +kernel]
        omega
      · rw [join_tx]
        refine k (tx l) H1 ?_ h4 h5
        unfold isWd
        rw [tx_len, tx_cps, h3, decide_eq_true (by omega), decide_eq_true (by omega)]
        rfl
end
end K71

set_option Elab.async false
set_option linter.all false
set_option maxRecDepth 100000
set_option maxHeartbeats 4000000
set_option pp.maxSteps 1500
namespace K71
open PySem L2 L2.G42
open Evl (pss_cut)
open _root_.ClX (CRead CVal pe_cval)
abbrev sLRead : Stmt := top 18
abbrev NLRead : List Str := ["_law_text", "_law_words", "_law_is_end", "_law_rest", "_law_place", "_law_cut"]
theorem scLRead : FnScope NLRead ["_law_text"] (defScope sLRead) := ⟨rfl, rfl, rfl, by decide +kernel, rfl, by decide +kernel, by decide +kernel⟩
theorem cut_suf (l : List Nat) (k : Nat) : cutS (tx l) (some (k : Int)) none = tx (l.drop k) := by
  have el : (tx l).length = l.length := tx_len l
  unfold cutS HT.sIx
  simp only [show ¬ ((k : Int) < 0) by omega, if_false, Int.toNat_natCast]
  rw [el]
  apply str_ext
  rw [tx_cps]
  show (((tx l).cps.toList.drop (min k l.length)).take (l.length - min k l.length)).toArray.toList = _
  rw [tx_cps]
  rcases Nat.le_total k l.length with h | h
  · rw [Nat.min_eq_left h]
    simp [List.take_of_length_le]
  · rw [Nat.min_eq_right h]
    simp [List.drop_eq_nil_of_le h]
/-- the law's own reading -/
def spLRead (K : PySem.W.Frag) : Sp := fun vs H Q _ => ∃ z : Str, vs = [.str z] ∧ z.length ≤ 200 ∧ (goalP z = none → ∀ H' : Hp, But (fun _ => False) H H' → Q .non H') ∧
  ∀ k p e, goalP z = some (k, p, e) → ∀ (r t : Addr) (H' : Hp), H r = none → H' r = some (.tup [.str k, .ref t, .bl e]) → SqT K H' t (p.map V.str) → But (fun _ => False) H H' → Q (.ref r) H'
theorem decS (a b : Str) : decide (V.str a = V.str b) = decide (a = b) := by
  by_cases h : a = b
  · rw [decide_eq_true h, decide_eq_true (by rw [h])]
  · rw [decide_eq_false h, decide_eq_false (fun q => h (by injection q))]
theorem txE {l : List Nat} {s : Str} (m : List Nat) (hs : s = tx m) : decide (tx l = s) = decide (l = m) := by
  rw [hs]
  by_cases h : l = m
  · rw [decide_eq_true h, decide_eq_true (by rw [h])]
  · rw [decide_eq_false h, decide_eq_false (fun q => h (by
      have := congrArg (fun x : Str => x.cps.toList) q
      simpa [tx_cps] using this))]
theorem tw_len {r : List Nat} (h : 93 ∈ r) : (r.takeWhile (· ≠ 93)).length < r.length := by
  have := (tw_split h).1
  have e := congrArg List.length this
  rw [List.length_append, List.length_cons] at e
  omega
theorem tw_take {r : List Nat} (h : 93 ∈ r) : r.take (r.takeWhile (· ≠ 93)).length = r.takeWhile (· ≠ 93) := by
  have := (tw_split h).1
  conv => lhs; arg 2; rw [this]
  rw [List.take_left]
theorem tw_drop {r : List Nat} (h : 93 ∈ r) : r.drop ((r.takeWhile (· ≠ 93)).length + 1) = (r.dropWhile (· ≠ 93)).drop 1 := by
  have := (tw_split h).1
  conv => lhs; arg 2; rw [this]
  rw [List.drop_append]
  have e1 : (r.takeWhile (· ≠ 93)).length + 1 - (r.takeWhile (· ≠ 93)).length = 1 := by omega
  rw [e1, List.drop_eq_nil_of_le (by omega)]
  rfl
section
variable {P : Program} {w : World} {K : PySem.W.Frag} {mg : Str → Option Value} {base : Heap} {G : Addr} {mc : Value}
theorem ok_lread {f : Addr} {fd : FuncData} (F : Fun K "_law_read" "_law_read" sLRead f fd) (T : Bn mg) (Gk : GlK K G mc) (gl : mg "Goal" = some (.ref G)) (cKey : Cl P w K mg base 2 "_law_is_key" spIsKey []) : FnOk P w K mg base CX0 3 f fd ["_law_text"] (spLRead K) := by
  refine F.ok scLRead (fun vs H Q E h => ?_) (fun cdv A outer s H vs Q E hr h => ?_)
  · obtain ⟨z, rfl, _⟩ := h
    rfl
  · obtain ⟨z, rfl, hz, kN, kS⟩ := h
    obtain ⟨ka, ck, hk⟩ := Gk.kinds
    refine ⟨_, (pss_cut (ps_if (pt_cmpR op_eq (pv 0) pe_str (nomark _)) (pss_one (ps_ret (pe_tup (pa_cons pe_str (pa_cons (pe_tup pa_nil) (pa_cons pe_bl pa_nil)))))) pss_nil)
      (pss_cons (ps_set (i := 1) scLRead.nd rfl (.inl rfl) (pe_split (pv 0) pe_str))
      (pss_cut (ps_set (i := 2) scLRead.nd rfl (.inl rfl) (pe_and (pe_cmpR op_eq (pe_callB call_len_seq (by rfl) T.len PySem.boot_len (pa_cons (pv 1) pa_nil)) pe_int (nomark _)) (pe_and (pe_cmpR op_eq (pe_ix ix_list (pv 1) pe_int (fun _ _ => rfl)) pe_str (nomark _)) (pe_one (pe_cmpR op_in_seq (pe_ix ix_list (pv 1) pe_int (fun _ _ => rfl)) (pe_slice sl_tup (pe_cval (pe_glob (v := .ref G) rfl gl rfl)) po_none (po_some pe_int)) rfl)))))
      (pss_cut (ps_if (PW.pt (pw_or (pt_cmpR op_notIn_seq (pe_ix ix_list (pv 1) pe_int (fun _ _ => rfl)) (pe_cval (pe_glob (v := .ref G) rfl gl rfl)) rfl) (pw_or1 (PW.pt (pw_and (pt_cmpR op_ne (pe_callB call_len_seq (by rfl) T.len PySem.boot_len (pa_cons (pv 1) pa_nil)) pe_int (nomark _)) (pw_and1 (pt_not (pt_val (pv 2))))))))) (pss_one (ps_ret pe_non)) pss_nil)
      (pss_cut (ps_par (i := 3) (j := 4) rfl scLRead.nd rfl rfl (by decide) rfl rfl (pa_cons (pe_ix ix_list (pv 1) pe_int (fun _ _ => rfl)) (pa_cons (pe_tup pa_nil) pa_nil)) (by rfl))
      (pss_cut (ps_if (pt_not (pt_val (pe_m1 PySem.F.slot_str_startswith PySem.F.type_str_startswith mt_startswith (pv 3) pe_str))) (pss_one (ps_ret pe_non)) pss_nil)
      (pss_cut (ps_set (i := 3) scLRead.nd rfl (.inl rfl) (pe_slice sl_str (pv 3) (po_some pe_int) po_none))
      (pss_cut (ps_while PassesOwn.never (pt_cmpR op_ne (pv 3) pe_str (nomark _))
        (pss_cons (ps_set (i := 5) scLRead.nd rfl (.inl rfl) (pe_m1 PySem.F.slot_str_find PySem.F.type_str_find mt_find (pv 3) pe_str))
        (pss_cut (ps_if (PW.pt (pw_or (pt_cmpR op_ne (pe_ix ix_str (pv 3) pe_int (fun _ _ => rfl)) pe_str (nomark _)) (pw_or (pt_cmpR op_lt (pv 5) pe_int (nomark _)) (pw_or1 (pt_not (pt_val (pe_c cKey hr (by decide) rfl (pa_cons (pe_slice sl_str (pv 3) (po_some pe_int) (po_some (pv 5))) pa_nil)))))))) (pss_one (ps_ret pe_non)) pss_nil)
        (pss_one (ps_par (i := 4) (j := 3) rfl scLRead.nd rfl rfl (by decide) rfl rfl (pa_cons (pe_op op_catA (pv 4) (pe_tup (pa_cons (pe_slice sl_str (pv 3) (po_some pe_int) (po_some (pv 5))) pa_nil))) (pa_cons (pe_slice sl_str (pv 3) (po_some (pe_op op_add (pv 5) pe_int)) po_none) pa_nil)) (by rfl))))))
      (pss_one (ps_ret (pe_tup (pa_cons (pe_ix ix_list (pv 1) pe_int (fun _ _ => rfl)) (pa_cons (pv 4) (pa_cons (pv 2) pa_nil)))))))))))))), ?_⟩
    refine ⟨fun σ H1 => σ = [some (.str z), none, none, none, none, none] ∧ H1 = H ∧ z ≠ "shown", ?_, ?_⟩
    · refine ⟨_, rfl, rfl, _, rfl, ?_⟩
      by_cases hs : z = "shown"
      · rw [decide_eq_true (show V.str z = V.str "shown" by rw [hs])]
        refine iteT ⟨szle (by simp), fun t ht => ⟨szle (by simp), fun r hr => ?_⟩⟩
        have g1 : But (fun _ => False) H (upd H t (.tup [])) := But.new ht
        exact kS "shown" [] false (by unfold goalP; rw [if_pos hs]) r t _ (g1.free hr) upd_same (.inl (.inl ((But.new (S := fun _ => False) hr) _ _ upd_same id))) (g1.trans (But.new hr))
      · rw [decide_eq_false (show ¬ V.str z = V.str "shown" from fun q => hs (by injection q))]
        exact iteF ⟨rfl, rfl, hs⟩
    rintro σ H1 ⟨rfl, e1, hs⟩
    cases e1
    obtain ⟨w0, wt, ew⟩ := splC_ex 32 z.cps.toList
    have es : Txt.split z " " = (splC 32 z.cps.toList).map tx := by
      rw [show Str.ofString " " = tx [32] by decide +kernel]
      exact split_one z (by decide)
    have hg : goalP z = goalW (w0 :: wt) := by
      unfold goalP
      rw [if_neg hs, ew]
    have hlz : z.cps.toList.length = z.length := by show _ = z.cps.size; simp
    have qb : ∀ q ∈ w0 :: wt, q.length ≤ 200 := fun q hq => by
      have := splC_short 32 z.cps.toList q (by rw [ew]; exact hq)
      omega
    rw [hg] at kN kS
    clear hg
    refine ⟨_, rfl, ⟨_, rfl⟩, z, _, rfl, rfl, by decide +kernel, Nat.le_trans (Nat.add_le_add_right hz 2) (by decide), fun W hW => ?_⟩
    have g1 : But (fun _ => False) H (upd H W (.lst ((Txt.split z " ").map V.str))) := But.new hW
    have hW1 : (upd H W (.lst ((Txt.split z " ").map V.str))) W = some (.lst (((w0 :: wt).map tx).map V.str)) := by rw [upd_same, es, ew]
    show ∃ M, _
    generalize upd H W (.lst ((Txt.split z " ").map V.str)) = H1 at g1 hW1 ⊢
    refine ⟨fun σ H2 => ∃ e : Bool, σ = [some (.str z), some (.ref W), some (.bl e), none, none, none] ∧ But (fun _ => False) H1 H2 ∧ (e = true ↔ ∃ q en, wt = [q, en] ∧ tx en = "end" ∧ statesG.contains (tx w0) = true), ?_, ?_⟩
    · refine ⟨_, rfl, W, _, rfl, .inl (SqL.of hW1), rfl, _, rfl, ?_⟩
      rw [List.length_map, List.length_map, List.length_cons]
      by_cases h3 : wt.length = 2
      · rw [decide_eq_true (show V.int ((wt.length + 1 : Nat) : Int) = V.int 3 by rw [h3]; rfl)]
        obtain ⟨q, en, rfl⟩ : ∃ q en, wt = [q, en] := by
          match wt, h3 with
          | [q, en], _ => exact ⟨q, en, rfl⟩
        refine iteT ⟨_, rfl, W, _, _, _, rfl, rfl, SqL.of hW1, atI_nat (j := 2) rfl, rfl, _, rfl, ?_⟩
        by_cases he : tx en = "end"
        · rw [decide_eq_true (show V.str (tx en) = V.str "end" by rw [he])]
          refine iteT ⟨_, rfl, W, _, _, _, rfl, rfl, SqL.of hW1, atI_nat (j := 0) rfl, G, mc, _, _, rfl, Gk.rd, ck, _, rfl, ka, _, rfl, hk _, (by decide +kernel), fun p hp => ⟨p, _, rfl, .inr (.inl (.inl upd_same)), rfl, ?_, ?_⟩⟩
          · exact flat_strs statesG
          · refine ⟨_, rfl, But.new hp, ?_⟩
            show inV (.str (tx w0)) (statesG.map V.str) = true ↔ _
            rw [inV_str]
            exact ⟨fun h => ⟨q, en, rfl, he, h⟩, fun ⟨_, _, _, _, h⟩ => h⟩
        · rw [decide_eq_false (show ¬ V.str (tx en) = V.str "end" from fun q => he (by injection q))]
          refine iteF ⟨_, rfl, But.refl, ?_⟩
          constructor
          · intro h; cases h
          · rintro ⟨q', en', e0, e1, _⟩
            injection e0 with _ e0
            injection e0 with e0
            rw [← e0] at e1
            exact absurd e1 he
      · rw [decide_eq_false (show ¬ V.int ((wt.length + 1 : Nat) : Int) = V.int 3 from fun q => h3 (by injection q; omega))]
        refine iteF ⟨_, rfl, But.refl, ?_⟩
        constructor
        · intro h; cases h
        · rintro ⟨q', en', e0, _⟩
          rw [e0] at h3
          exact absurd rfl h3
    rintro σ H2 ⟨e, rfl, g2, he⟩
    have hW2 := g2 _ _ hW1 id
    have gg2 := g1.trans g2
    refine ⟨fun σ H3 => σ = [some (.str z), some (.ref W), some (.bl e), none, none, none] ∧ H3 = H2 ∧ ∃ q r, wt = q :: r ∧ (placeP q = none → goalW (w0 :: wt) = none) ∧ ∀ p, placeP q = some p → goalW (w0 :: wt) = some (tx w0, p, e), ?_, ?_⟩
    · refine ⟨_, rfl, W, _, _, _, rfl, rfl, SqL.of hW2, atI_nat (j := 0) rfl, G, mc, _, _, rfl, Gk.rd, ck, ka, _, rfl, .inr (hk _), rfl, flat_strs _, _, rfl, ?_⟩
      show if (!inV (.str (tx w0)) (kindsG.map V.str)) = true then _ else _
      rw [inV_str]
      cases hc : kindsG.contains (tx w0) with
      | false =>
        refine iteT (kN ?_ _ gg2)
        match wt with
        | [] => rfl
        | q :: r => exact goalW_kind hc
      | true =>
        refine iteF ⟨_, rfl, W, _, rfl, .inl (SqL.of hW2), rfl, _, rfl, ?_⟩
        rw [List.length_map, List.length_map, List.length_cons]
        by_cases h2 : wt.length = 1
        · rw [decide_eq_true (show V.int ((wt.length + 1 : Nat) : Int) = V.int 2 by rw [h2]; rfl)]
          obtain ⟨q, rfl⟩ : ∃ q, wt = [q] := by
            match wt, h2 with
            | [q], _ => exact ⟨q, rfl⟩
          have e0 : e = false := by
            cases e with
            | false => rfl
            | true =>
              obtain ⟨_, _, h, _⟩ := he.mp rfl
              cases h
          have eg : goalW [w0, q] = (placeP q).map fun p => (tx w0, p, false) := by
            show (if kindsG.contains (tx w0) = true then _ else none) = _
            rw [if_pos hc]
          refine iteF (iteF ⟨rfl, rfl, q, [], rfl, fun h => by rw [eg, h]; rfl, fun p h => by rw [eg, h, e0]; rfl⟩)
        · rw [decide_eq_false (show ¬ V.int ((wt.length + 1 : Nat) : Int) = V.int 2 from fun q => h2 (by injection q; omega))]
          refine iteT ⟨_, rfl, _, rfl, ?_⟩
          cases e with
          | true =>
            obtain ⟨q, en, rfl, e1, e2⟩ := he.mp rfl
            have eg : goalW [w0, q, en] = (placeP q).map fun p => (tx w0, p, true) := by
              show (if statesG.contains (tx w0) = true ∧ tx en = "end" then _ else none) = _
              rw [if_pos ⟨e2, e1⟩]
            exact iteF ⟨rfl, rfl, q, [en], rfl, fun h => by rw [eg, h]; rfl, fun p h => by rw [eg, h]; rfl⟩
          | false =>
            refine iteT (kN ?_ _ gg2)
            match wt, h2, he with
            | [], _, _ => rfl
            | [q], h2, _ => exact absurd rfl h2
            | [q, en], _, he =>
              show (if statesG.contains (tx w0) = true ∧ tx en = "end" then _ else none) = none
              rw [if_neg]
              intro h
              exact nomatch he.mpr ⟨q, en, rfl, h.2, h.1⟩
            | _ :: _ :: _ :: _, _, _ => rfl
    rintro σ H3 ⟨rfl, e3, q, r, rfl, pN, pS⟩
    cases e3
    rw [place_same] at pN
    have pS' : ∀ p, placeL q = some p → goalW (w0 :: q :: r) = some (tx w0, p, e) := fun p hp => pS p (by rw [place_same]; exact hp)
    clear pS
    have hq200 := qb q (List.mem_cons_of_mem _ List.mem_cons_self)
    refine ⟨fun σ H3 => ∃ t, σ = [some (.str z), some (.ref W), some (.bl e), some (.str (tx q)), some (.ref t), none] ∧ H3 W = some (.lst (((w0 :: q :: r).map tx).map V.str)) ∧ But (fun _ => False) H H3 ∧ H3 t = some (.tup []), ?_, ?_⟩
    · refine ⟨_, rfl, W, _, _, _, rfl, rfl, SqL.of hW2, atI_nat (j := 1) rfl, szle (by simp), fun t ht => ⟨_, _, rfl, t, rfl, ?_, gg2.trans (But.new ht), upd_same⟩⟩
      exact (But.new (S := fun _ => False) ht) _ _ hW2 id
    rintro σ H3 ⟨t, rfl, hW3, g3, ht⟩
    refine ⟨fun σ H4 => σ = [some (.str z), some (.ref W), some (.bl e), some (.str (tx q)), some (.ref t), none] ∧ H4 = H3 ∧ q.take 4 = rootL, ?_, ?_⟩
    · refine ⟨_, rfl, ⟨_, rfl⟩, tx q, _, rfl, rfl, _, rfl, ?_⟩
      rw [starts_root, tx_cps]
      by_cases h : q.take 4 = [114, 111, 111, 116]
      · rw [decide_eq_true h]
        exact iteF ⟨rfl, rfl, h⟩
      · rw [decide_eq_false h]
        refine iteT (kN (pN ?_) _ g3)
        unfold placeL
        exact if_neg h
    rintro σ H4 ⟨rfl, e4, hroot⟩
    cases e4
    have pl : placeL q = parseL (q.length + 1) (q.drop 4) := by
      unfold placeL
      rw [if_pos hroot]
    refine ⟨fun σ H4 => σ = [some (.str z), some (.ref W), some (.bl e), some (.str (tx (q.drop 4))), some (.ref t), none] ∧ H4 = H3, ?_, ?_⟩
    · refine ⟨_, rfl, _, rfl, ?_⟩
      dsimp only [tNoPart]
      refine ⟨tx q, rfl, szle (by rw [tx_len]; omega), ?_⟩
      have := cut_suf q 4
      rw [show ((4 : Nat) : Int) = 4 from rfl] at this
      rw [this]
      exact ⟨rfl, rfl⟩
    rintro σ H4 ⟨rfl, e4⟩
    cases e4
    refine ⟨fun σ H4 => ∃ (t : Addr) (x5 : Option V) (ks : List Str), σ = [some (.str z), some (.ref W), some (.bl e), some (.str (tx [])), some (.ref t), x5] ∧ H4 W = some (.lst (((w0 :: q :: r).map tx).map V.str)) ∧ But (fun _ => False) H H4 ∧ SqT K H4 t (ks.map V.str) ∧ placeL q = some ks, ?_, ?_⟩
    · refine ⟨fun m σ H4 => ∃ (t : Addr) (x5 : Option V) (ks : List Str) (l : List Nat), σ = [some (.str z), some (.ref W), some (.bl e), some (.str (tx l)), some (.ref t), x5] ∧ H4 W = some (.lst (((w0 :: q :: r).map tx).map V.str)) ∧ But (fun _ => False) H H4 ∧ SqT K H4 t (ks.map V.str) ∧ l.length < m ∧ l.length ≤ 200 ∧ ks.length + l.length ≤ 200 ∧ placeL q = (parseL m l).map (ks ++ ·), ⟨q.length + 1, t, none, [], q.drop 4, rfl, hW3, g3, .inl (.inl ht), ?_, ?_, ?_, ?_⟩, ?_⟩
      · rw [List.length_drop]; omega
      · rw [List.length_drop]; omega
      · rw [List.length_drop, List.length_nil]; omega
      · rw [pl]; simp
      rintro m σ H5 ⟨t, x5, ks, l, rfl, h1, g5, h2, h3, h4, h5, h6⟩
      refine ⟨_, rfl, rfl, _, rfl, ?_⟩
      rw [decS, txE [] (show Str.ofString "" = tx [] by decide +kernel)]
      obtain ⟨m, rfl⟩ : ∃ n, m = n + 1 := ⟨m - 1, by omega⟩
      match l, h3, h4, h5, h6 with
      | [], h3, h4, h5, h6 =>
        refine iteF ⟨t, x5, ks, rfl, h1, g5, h2, ?_⟩
        rw [h6]
        show some (ks ++ []) = some ks
        rw [List.append_nil]
      | c :: l, h3, h4, h5, h6 =>
        refine iteT ⟨fun σ' H' => ∃ m', m' < m + 1 ∧ _, fun _ _ h => h, ?_⟩
        rw [parseL] at h6
        refine ⟨_, rfl, ⟨_, rfl⟩, _, _, rfl, rfl, ?_⟩
        rw [find_close, tx_cps]
        have none_ : ¬ (c = 91 ∧ 93 ∈ l ∧ isKey (tx (l.takeWhile (· ≠ 93))) = true) → goalW (w0 :: q :: r) = none := fun h => by
          rw [if_neg h] at h6
          exact pN h6
        refine ⟨fun σ H6 => σ = [some (.str z), some (.ref W), some (.bl e), some (.str (tx (c :: l))), some (.ref t), some (.int (1 + ((l.takeWhile (· ≠ 93)).length : Int)))] ∧ But (fun _ => False) H5 H6 ∧ c = 91 ∧ 93 ∈ l ∧ isKey (tx (l.takeWhile (· ≠ 93))) = true, ?_, ?_⟩
        · refine ⟨_, rfl, tx (c :: l), _, c, rfl, rfl, szle (by rw [tx_len, List.length_cons]; rw [List.length_cons] at h4; omega), atI_nat (j := 0) (by rw [tx_cps]; rfl), rfl, _, rfl, ?_⟩
          by_cases hc : c = 91
          · subst hc
            rw [decide_eq_true (show V.str (tx [91]) = V.str "[" by rw [show tx [91] = Str.ofString "[" by decide +kernel])]
            refine iteF ⟨_, rfl, _, _, rfl, rfl, _, rfl, ?_⟩
            by_cases hm : 93 ∈ l
            · have e1 : (if 93 ∈ 91 :: l then (((91 :: l).takeWhile (· ≠ 93)).length : Int) else -1) = 1 + ((l.takeWhile (· ≠ 93)).length : Int) := by
                rw [if_pos (List.mem_cons_of_mem _ hm), List.takeWhile_cons]
                simp
                omega
              rw [e1, decide_eq_false (show ¬ (1 + ((l.takeWhile (· ≠ 93)).length : Int)) < 0 by omega)]
              refine iteF ⟨_, rfl, _, rfl, _, rfl, _, rfl, tx (91 :: l), rfl, szle (by rw [tx_len]; omega), ?_⟩
              have ek : cutS (tx (91 :: l)) (some 1) (some (1 + ((l.takeWhile (· ≠ 93)).length : Int))) = tx (l.takeWhile (· ≠ 93)) := by
                have := cut_seg (91 :: l) 1 (l.takeWhile (· ≠ 93)).length
                rw [show ((1 : Nat) : Int) = 1 from rfl] at this
                rw [this, List.drop_succ_cons, List.drop_zero, tw_take hm]
              dsimp only [tNil]
              rw [ek]
              refine ⟨_, rfl, ?_, fun H6 g6 => ⟨_, rfl, ?_⟩⟩
              · have := tw_len hm
                rw [List.length_cons] at h4
                rw [tx_len]
                omega
              · cases hk : isKey (tx (l.takeWhile (· ≠ 93))) with
                | true => exact iteF ⟨rfl, g6, rfl, hm, rfl⟩
                | false => exact iteT (kN (none_ fun h => by rw [hk] at h; cases h.2.2) _ (g5.trans g6))
            · have e1 : (if 93 ∈ 91 :: l then (((91 :: l).takeWhile (· ≠ 93)).length : Int) else -1) = -1 := by
                rw [if_neg]
                intro h
                rcases List.mem_cons.mp h with h | h
                · cases h
                · exact hm h
              rw [e1]
              exact iteT (kN (none_ fun h => hm h.2.1) _ g5)
          · rw [decide_eq_false (show ¬ V.str (tx [c]) = V.str "[" from fun h => hc (by
              injection h with h
              have := congrArg (fun x : Str => x.cps.toList) h
              have : (tx [c]).cps.toList = (Str.ofString "[").cps.toList := this
              rw [tx_cps, show (Str.ofString "[").cps.toList = [91] by decide +kernel] at this
              injection this))]
            exact iteT (kN (none_ fun h => hc h.1) _ g5)
        rintro σ H6 ⟨rfl, g6, rfl, hm, hk⟩
        rw [if_pos ⟨rfl, hm, hk⟩] at h6
        have l1 := tw_len hm
        have h1' := g6 _ _ h1 id
        have h2' := SqT.grow h2 g6
        have gg6 := g5.trans g6
        rw [List.length_cons] at h3 h4 h5
        have ek : cutS (tx (91 :: l)) (some 1) (some (1 + ((l.takeWhile (· ≠ 93)).length : Int))) = tx (l.takeWhile (· ≠ 93)) := by
          have := cut_seg (91 :: l) 1 (l.takeWhile (· ≠ 93)).length
          rw [show ((1 : Nat) : Int) = 1 from rfl] at this
          rw [this, List.drop_succ_cons, List.drop_zero, tw_take hm]
        have er : cutS (tx (91 :: l)) (some (1 + ((l.takeWhile (· ≠ 93)).length : Int) + 1)) none = tx ((l.dropWhile (· ≠ 93)).drop 1) := by
          have := cut_suf (91 :: l) ((l.takeWhile (· ≠ 93)).length + 2)
          rw [show (((l.takeWhile (· ≠ 93)).length + 2 : Nat) : Int) = 1 + ((l.takeWhile (· ≠ 93)).length : Int) + 1 by omega] at this
          rw [this, List.drop_succ_cons, tw_drop hm]
        have lr : ((l.dropWhile (· ≠ 93)).drop 1).length + 1 ≤ l.length := by
          rw [← tw_drop hm, List.length_drop]
          omega
        have h6' : placeL q = (parseL m ((l.dropWhile (· ≠ 93)).drop 1)).map ((ks ++ [tx (l.takeWhile (· ≠ 93))]) ++ ·) := by
          rw [h6]
          cases parseL m ((l.dropWhile (· ≠ 93)).drop 1) with
          | none => rfl
          | some ys =>
            show some (ks ++ (tx (l.takeWhile (· ≠ 93)) :: ys)) = some (ks ++ [tx (l.takeWhile (· ≠ 93))] ++ ys)
            rw [List.append_assoc]
            rfl
        have fin : ∀ (t' : Addr) (H7 : Hp), But (fun _ => False) H6 H7 → SqT K H7 t' ((ks ++ [tx (l.takeWhile (· ≠ 93))]).map V.str) →
            ∃ m', m' < m + 1 ∧ ∃ (t : Addr) (x5 : Option V) (ks : List Str) (l_1 : List Nat), [some (.str z), some (.ref W), some (.bl e), some (.str (cutS (tx (91 :: l)) (some (1 + ((l.takeWhile (· ≠ 93)).length : Int) + 1)) none)), some (.ref t'), some (.int (1 + ((l.takeWhile (· ≠ 93)).length : Int)))] = [some (.str z), some (.ref W), some (.bl e), some (.str (tx l_1)), some (.ref t), x5] ∧ H7 W = some (.lst (((w0 :: q :: r).map tx).map V.str)) ∧ But (fun _ => False) H H7 ∧ SqT K H7 t (ks.map V.str) ∧ l_1.length < m' ∧ l_1.length ≤ 200 ∧ ks.length + l_1.length ≤ 200 ∧ placeL q = (parseL m' l_1).map (ks ++ ·) := fun t' H7 g7 ht' =>
          ⟨m, by omega, t', _, _, _, by rw [er], g7 _ _ h1' id, gg6.trans g7, ht', by omega, by omega, by rw [List.length_append, List.length_cons, List.length_nil]; omega, h6'⟩
        refine ⟨_, rfl, _, rfl, _, rfl, _, rfl, _, rfl, tx (91 :: l), rfl, szle (by rw [tx_len, List.length_cons]; omega), szle (by simp), ?_⟩
        rw [ek]
        intro p hp
        have g7 : But (fun _ => False) H6 (upd H6 p (.tup [.str (tx (l.takeWhile (· ≠ 93)))])) := But.new hp
        refine ⟨t, p, ks.map V.str, _, rfl, rfl, SqT.grow h2' g7, .inl (.inl upd_same), ?_, fun hx => ?_, fun _ h => (nomatch h), fun hx _ p2 hp2 => ?_⟩
        · rw [List.length_map, List.length_cons, List.length_nil]
          exact szle (by omega)
        · refine ⟨_, rfl, _, rfl, _, _, rfl, rfl, _, rfl, ?_⟩
          dsimp only [tNoPart]
          refine ⟨tx (91 :: l), rfl, szle (by rw [tx_len, List.length_cons]; omega), _, _, rfl, ?_⟩
          refine fin p _ g7 (.inl (.inl ?_))
          have : ks = [] := by cases ks with
            | nil => rfl
            | cons _ _ => cases hx
          rw [upd_same, this]
          rfl
        · refine ⟨_, rfl, _, rfl, _, _, rfl, rfl, _, rfl, ?_⟩
          dsimp only [tNoPart]
          refine ⟨tx (91 :: l), rfl, szle (by rw [tx_len, List.length_cons]; omega), _, _, rfl, ?_⟩
          refine fin p2 _ (g7.trans (But.new hp2)) (.inl (.inl ?_))
          rw [upd_same, List.map_append]
          rfl
    rintro σ H4 ⟨t, x5, ks, rfl, h1, g4, h2, h3⟩
    refine ⟨_, rfl, W, _, _, _, rfl, rfl, SqL.of h1, atI_nat (j := 0) rfl, _, rfl, _, rfl, szle (by simp), fun r hr => ?_⟩
    exact kS _ ks e (pS' ks h3) r t _ (g4.free hr) upd_same (SqT.grow h2 (But.new hr)) (g4.trans (But.new hr))
end
end K71

set_option Elab.async false
set_option linter.all false
set_option maxRecDepth 100000
set_option maxHeartbeats 4000000
/-! goals out of their texts -/
namespace L2.G42
open PySem PySem.Spec
/-- signs of the texts of goals, spoilt ones too -/
def gdC (c : Nat) : Bool := letter c || [32, 91, 93, 95, 90, 48, 46].contains c
theorem letters_key {x : Str} (h : isKey x = true) : ∀ c ∈ x.cps.toList, letter c = true := by
  unfold isKey at h
  simp only [Bool.and_eq_true] at h
  exact List.all_eq_true.mp h.2.2
theorem tx_cp (x : Str) : tx x.cps.toList = x := str_ext (tx_cps _)
theorem parse_back : ∀ p : List Str, (∀ x ∈ p, isKey x = true) → parseP (p.map fun k => k.cps.toList ++ [93]) = some p
  | [], _ => rfl
  | x :: p, h => by
    have hx := h x List.mem_cons_self
    have e : keyPart (x.cps.toList ++ [93]) = some x := by
      unfold keyPart
      rw [List.dropLast_concat, tx_cp, if_pos ⟨by simp, hx⟩]
    show ((keyPart (x.cps.toList ++ [93])).bind fun k => (parseP (p.map fun k => k.cps.toList ++ [93])).map (k :: ·)) = _
    rw [e, parse_back p fun y hy => h y (List.mem_cons_of_mem _ hy)]
    rfl
theorem spl_keys : ∀ p : List Str, (∀ x ∈ p, isKey x = true) → ∀ a : List Nat, 91 ∉ a → splC 91 (a ++ (p.map fun k => 91 :: (k.cps.toList ++ [93])).flatten) = a :: p.map fun k => k.cps.toList ++ [93]
  | [], _, a, ha => by
    rw [List.map_nil, List.flatten_nil, List.append_nil]
    exact splC_none ha
  | x :: p, h, a, ha => by
    have hx := h x List.mem_cons_self
    have n1 : 91 ∉ x.cps.toList ++ [93] := fun hc => by
      rcases List.mem_append.mp hc with hc | hc
      · exact absurd (letters_key hx 91 hc) (by decide)
      · exact absurd hc (by decide)
    have ih := spl_keys p (fun y hy => h y (List.mem_cons_of_mem _ hy)) _ n1
    rw [List.map_cons, List.flatten_cons, List.cons_append]
    have e2 : splC 91 (91 :: ((x.cps.toList ++ [93]) ++ (p.map fun k => 91 :: (k.cps.toList ++ [93])).flatten)) = [] :: ((x.cps.toList ++ [93]) :: p.map fun k => k.cps.toList ++ [93]) := by
      rw [splC_hit, ih]
    rw [splC_app ha e2, List.append_nil]
    rfl
theorem place_back {p : List Str} (h : ∀ x ∈ p, isKey x = true) : placeP (placeT p) = some p := by
  unfold placeP placeT
  rw [spl_keys p h rootL (by decide)]
  show (if rootL = rootL then parseP _ else none) = _
  rw [if_pos rfl, parse_back p h]
theorem placeT_c {p : List Str} (h : ∀ x ∈ p, isKey x = true) : ∀ c ∈ placeT p, letter c = true ∨ c = 91 ∨ c = 93 := by
  intro c hc
  unfold placeT at hc
  rcases List.mem_append.mp hc with hc | hc
  · exact .inl ((by decide : ∀ c ∈ rootL, letter c = true) c hc)
  · obtain ⟨q, hq, hc⟩ := List.mem_flatten.mp hc
    obtain ⟨x, hx, rfl⟩ := List.mem_map.mp hq
    rcases List.mem_cons.mp hc with hc | hc
    · exact .inr (.inl hc)
    · rcases List.mem_append.mp hc with hc | hc
      · exact .inl (letters_key (h x hx) c hc)
      · exact .inr (.inr (List.mem_singleton.mp hc))
theorem kind_c {k : Str} (h : kindsG.contains k = true) : ∀ c ∈ k.cps.toList, letter c = true := by
  have : ∀ y ∈ kindsG, ∀ c ∈ y.cps.toList, letter c = true := by decide +kernel
  exact this k (List.contains_iff_mem.mp h)
theorem kind_len {k : Str} (h : kindsG.contains k = true) : k.cps.toList.length ≤ 7 := by
  have : ∀ y ∈ kindsG, y.cps.toList.length ≤ 7 := by decide +kernel
  exact this k (List.contains_iff_mem.mp h)
theorem spl2 {a b : List Nat} (ha : 32 ∉ a) (hb : 32 ∉ b) : splC 32 (a ++ 32 :: b) = [a, b] := by
  have e : splC 32 (32 :: b) = [] :: [b] := by rw [splC_hit, splC_none hb]
  rw [splC_app ha e, List.append_nil]
theorem spl3 {a b c : List Nat} (ha : 32 ∉ a) (hb : 32 ∉ b) (hc : 32 ∉ c) : splC 32 (a ++ 32 :: (b ++ 32 :: c)) = [a, b, c] := by
  have e : splC 32 (32 :: (b ++ 32 :: c)) = [] :: [b, c] := by rw [splC_hit, spl2 hb hc]
  rw [splC_app ha e, List.append_nil]
theorem no32 {l : List Nat} (h : ∀ c ∈ l, letter c = true ∨ c = 91 ∨ c = 93) : 32 ∉ l := fun hc => by
  rcases h 32 hc with h | h | h
  · exact absurd h (by decide)
  · exact absurd h (by decide)
  · exact absurd h (by decide)
theorem goal_back {k : Str} {p : List Str} {e : Bool} (hk : kindsG.contains k = true) (hp : ∀ x ∈ p, isKey x = true) (he : e = true → statesG.contains k = true) : goalP (goalT k p e) = some (k, p, e) := by
  have ks := kind_shown hk
  have n1 : 32 ∉ k.cps.toList := no32 fun c hc => .inl (kind_c hk c hc)
  have n2 : 32 ∉ placeT p := no32 (placeT_c hp)
  have ne : goalT k p e ≠ "shown" := fun h => by
    unfold goalT at h
    rw [if_neg ks] at h
    have := congrArg (fun x : Str => x.cps.toList) h
    have : (tx (k.cps.toList ++ 32 :: (placeT p ++ if e = true then 32 :: [101, 110, 100] else []))).cps.toList = (Str.ofString "shown").cps.toList := this
    rw [tx_cps] at this
    have h3 : 32 ∈ (Str.ofString "shown").cps.toList := by rw [← this]; simp
    exact absurd h3 (by decide +kernel)
  unfold goalP
  rw [if_neg ne]
  unfold goalT
  rw [if_neg ks, tx_cps]
  cases e with
  | true =>
    rw [if_pos rfl, spl3 n1 n2 (by decide)]
    show (if statesG.contains (tx k.cps.toList) = true ∧ tx [101, 110, 100] = "end" then (placeP (placeT p)).map fun p => (tx k.cps.toList, p, true) else none) = _
    rw [tx_cp, if_pos ⟨he rfl, by decide +kernel⟩, place_back hp]
    rfl
  | false =>
    rw [if_neg Bool.false_ne_true, List.append_nil, spl2 n1 n2]
    show (if kindsG.contains (tx k.cps.toList) = true then (placeP (placeT p)).map fun p => (tx k.cps.toList, p, false) else none) = _
    rw [tx_cp, if_pos hk, place_back hp]
    rfl
theorem goalT_c {k : Str} {p : List Str} {e : Bool} (hk : k = "shown" ∨ kindsG.contains k = true) (hp : ∀ x ∈ p, isKey x = true) : ∀ c ∈ (goalT k p e).cps.toList, gdC c = true := by
  have lg : ∀ c, letter c = true → gdC c = true := fun c h => by unfold gdC; rw [h]; rfl
  by_cases ks : k = "shown"
  · unfold goalT
    rw [if_pos ks]
    decide +kernel
  · have hk' := hk.resolve_left ks
    unfold goalT
    rw [if_neg ks, tx_cps]
    intro c hc
    rcases List.mem_append.mp hc with hc | hc
    · exact lg c (kind_c hk' c hc)
    · rcases List.mem_cons.mp hc with hc | hc
      · rw [hc]; decide
      · rcases List.mem_append.mp hc with hc | hc
        · rcases placeT_c hp c hc with h | h | h
          · exact lg c h
          · rw [h]; decide
          · rw [h]; decide
        · cases e with
          | true =>
            rw [if_pos rfl] at hc
            exact (by decide : ∀ c ∈ [32, 101, 110, 100], gdC c = true) c hc
          | false =>
            rw [if_neg Bool.false_ne_true] at hc
            cases hc
theorem placeT_len : ∀ {p : List Str}, (∀ x ∈ p, isKey x = true) → (placeT p).length ≤ 4 + 10 * p.length := by
  intro p h
  unfold placeT
  have : ∀ q : List Str, (∀ x ∈ q, isKey x = true) → ((q.map fun k => 91 :: (k.cps.toList ++ [93])).flatten).length ≤ 10 * q.length := by
    intro q
    induction q with
    | nil => intro _; simp
    | cons x q ih =>
      intro hq
      have h1 := ih fun y hy => hq y (List.mem_cons_of_mem _ hy)
      have h2 : x.length ≤ 8 := by
        have := hq x List.mem_cons_self
        unfold isKey at this
        simp only [Bool.and_eq_true, decide_eq_true_eq] at this
        omega
      have h3 : x.cps.toList.length = x.length := by show _ = x.cps.size; simp
      rw [List.map_cons, List.flatten_cons, List.length_append, List.length_cons, List.length_append, List.length_cons, h3, List.length_nil, List.length_cons]
      omega
  have h4 := this p h
  rw [List.length_append, show rootL.length = 4 from rfl]
  omega
theorem goalT_len {k : Str} {p : List Str} {e : Bool} (hk : k = "shown" ∨ kindsG.contains k = true) (hp : ∀ x ∈ p, isKey x = true) (hl : p.length ≤ 6) : 0 < (goalT k p e).length ∧ (goalT k p e).length ≤ 90 := by
  by_cases ks : k = "shown"
  · unfold goalT
    rw [if_pos ks]
    decide +kernel
  · have hk' := kind_len (hk.resolve_left ks)
    have h1 := placeT_len hp
    unfold goalT
    rw [if_neg ks, tx_len, List.length_append, List.length_cons, List.length_append]
    have : (if e = true then 32 :: [101, 110, 100] else ([] : List Nat)).length ≤ 4 := by cases e <;> simp
    omega
/-- texts that are no goals -/
theorem wrong_long {k : Str} (hk : k = "shown" ∨ kindsG.contains k = true) {l : List Nat} (hl : l.length = 9) (hc : ∀ c ∈ l, letter c = true) : goalP (tx (k.cps.toList ++ 32 :: (rootL ++ 91 :: (l ++ [93])))) = none := by
  have kc : ∀ c ∈ k.cps.toList, letter c = true := by
    rcases hk with h | h
    · rw [h]; decide +kernel
    · exact kind_c h
  have n1 : 32 ∉ k.cps.toList := no32 fun c hc => .inl (kc c hc)
  have n2 : 32 ∉ rootL ++ 91 :: (l ++ [93]) := no32 fun c h => by
    rcases List.mem_append.mp h with h | h
    · exact .inl ((by decide : ∀ c ∈ rootL, letter c = true) c h)
    · rcases List.mem_cons.mp h with h | h
      · exact .inr (.inl h)
      · rcases List.mem_append.mp h with h | h
        · exact .inl (hc c h)
        · exact .inr (.inr (List.mem_singleton.mp h))
  unfold goalP
  rw [if_neg (fun h => by
    have := congrArg (fun x : Str => x.cps.toList) h
    have : (tx (k.cps.toList ++ 32 :: (rootL ++ 91 :: (l ++ [93])))).cps.toList = (Str.ofString "shown").cps.toList := this
    rw [tx_cps] at this
    have h3 : 32 ∈ (Str.ofString "shown").cps.toList := by rw [← this]; simp
    exact absurd h3 (by decide +kernel)), tx_cps, spl2 n1 n2]
  have hp : placeP (rootL ++ 91 :: (l ++ [93])) = none := by
    have n3 : 91 ∉ l ++ [93] := fun h => by
      rcases List.mem_append.mp h with h | h
      · exact absurd (hc 91 h) (by decide)
      · exact absurd h (by decide)
    have e : splC 91 (91 :: (l ++ [93])) = [] :: [l ++ [93]] := by rw [splC_hit, splC_none n3]
    unfold placeP
    rw [splC_app (by decide : 91 ∉ rootL) e, List.append_nil]
    show (if rootL = rootL then parseP [l ++ [93]] else none) = none
    rw [if_pos rfl]
    show ((keyPart (l ++ [93])).bind fun k => (parseP []).map (k :: ·)) = none
    have : keyPart (l ++ [93]) = none := by
      unfold keyPart
      rw [if_neg]
      rintro ⟨_, h⟩
      rw [List.dropLast_concat] at h
      unfold isKey at h
      simp only [Bool.and_eq_true, decide_eq_true_eq] at h
      have := h.1.2
      rw [tx_len] at this
      omega
    rw [this]
    rfl
  show (if kindsG.contains (tx k.cps.toList) = true then (placeP (rootL ++ 91 :: (l ++ [93]))).map fun p => (tx k.cps.toList, p, false) else none) = none
  rw [hp]
  split <;> rfl
theorem wrong_ends : ∀ k ∈ Str.ofString "shown" :: kindsG, goalP (k ++ Str.ofString " root end end") = none := by decide +kernel
theorem wrong_kept : ∀ k ∈ Str.ofString "shown" :: kindsG, ∀ x ∈ reserved, goalP (k ++ Str.ofString " root[" ++ x ++ Str.ofString "]") = none := by decide +kernel
theorem wrong_odd : goalP (Str.ofString "") = none ∧ goalP (Str.ofString " ") = none ∧ goalP (Str.ofString "root[a]") = none := by decide +kernel
def othersG : List Str := ["shown", "missing root", "late root[a] end", "undone root[b]"]
theorem others_ok : ∀ z ∈ othersG, (goalP z).isSome = true ∧ z.length ≤ 200 ∧ (∀ c ∈ z.cps.toList, gdC c = true) := by decide +kernel
end L2.G42

set_option Elab.async false
set_option linter.all false
set_option maxRecDepth 100000
set_option maxHeartbeats 4000000
set_option pp.maxSteps 1500
namespace L2.G42
open PySem PySem.Spec PyProof.Rows PySem.StrLaws
section
variable {X : Cx} {k j n : Nat} {C : Addr} {x : Str} {sp : Sp} {ks : List Str} {gV : List V → List V → List V} {p pos : Pos} {e : Expr} {es : List Expr} {kws : List Keyword} {t tk : TA}
theorem pe_mkNG (c : NwN X.prog X.w X.K X.mg X.base k C n ks sp gV) (hr : Room j X.A) (hk : k + 1 ≤ j) (hg : Gl X x) (hm : X.mg x = some (.ref C)) (ha : PA X (e :: es) t) (hkw : PK X kws tk)
    (hall : (backToKw pos (keywordEach kws X.env)).all (·.1.isSome) = true := by rfl) (hks : (backToKw pos (keywordEach kws X.env)).filterMap (·.1) = ks := by rfl) (hdb : (x == ("__debug__" : Str)) = false := by decide)
    (he : starEach (e :: es) X.env = (false, eval e X.env) :: starEach es X.env := by rfl) (hpl : ((backTo pos (starEach (e :: es) X.env)).any (·.1) || (backToKw pos (keywordEach kws X.env)).any (·.1.isNone)) = false := by rfl) :
    PE X (.Call (.Name x p) (e :: es) kws pos) (tMakeN C n ks.length sp gV E0 t tk) :=
  let ⟨_, _, _, _, M, F, hb⟩ := c.ex
  pe_makeN M F (hr.mono hk) hg hm hb pass0 ha hkw hall hks hdb he hpl
end
theorem NwV.nw {P : Program} {w : World} {K : PySem.W.Frag} {mg : Str → Option Value} {base : Heap} {k : Nat} {C : Addr} {sp : Sp} {dvs : List V} {x : Str} (c : NwV P w K mg base k C sp dvs) (gl : mg x = some (.ref C)) : Nw P w K mg base k x C sp dvs :=
  let ⟨f, fd, ps, ds, M, F, b, d⟩ := c.ex
  ⟨f, fd, ps, ds, M, F, gl, b, d⟩
theorem gdC_in {c : Nat} (h : gdC c = true) : c ∈ (List.range 127).filter gdC := by
  refine List.mem_filter.mpr ⟨?_, h⟩
  unfold gdC letter at h
  simp at h
  rw [List.mem_range]
  omega
theorem repr_gd : ∀ c ∈ (List.range 127).filter gdC, Builtin.Str.reprChar 39 c = [c] ∧ Builtin.Str.reprChar 34 c = [c] ∧ c < 127 := by decide +kernel
theorem foldG {P : Nat → Prop} {q : Nat} : ∀ (l : List Nat) (acc : Array Nat), (∀ c ∈ acc, P c) → (∀ c ∈ l, ∀ d ∈ Builtin.Str.reprChar q c, P d) → ∀ c ∈ l.foldl (fun out c => out ++ (Builtin.Str.reprChar q c).toArray) acc, P c
  | [], acc, h, _ => h
  | x :: l, acc, h, h2 => foldG l _ (fun c hc => by
      rcases Array.mem_append.mp hc with hc | hc
      · exact h c hc
      · exact h2 x List.mem_cons_self c (by simpa using hc)) fun c hc => h2 c (List.mem_cons_of_mem _ hc)
theorem reprG_so {x : Str} (h : ∀ c ∈ x.cps.toList, gdC c = true) : PyData.strOk (reprText x) = true := by
  have hq : reprQuote x = 39 ∨ reprQuote x = 34 := by unfold reprQuote; split <;> simp
  have hq2 : reprQuote x < 0x110000 := by rcases hq with e | e <;> rw [e] <;> decide
  unfold reprText PyData.strOk
  rw [Array.all_eq_true_iff_forall_mem]
  intro c hc
  rcases Array.mem_push.mp hc with hc | hc
  · have : ∀ c ∈ x.cps.toList.foldl (fun out c => out ++ (Builtin.Str.reprChar (reprQuote x) c).toArray) #[reprQuote x], c < 0x110000 := by
      refine foldG _ _ (fun c hc => ?_) (fun c hc d hd => ?_)
      · have : c = reprQuote x := by simpa using hc
        rw [this]
        exact hq2
      · obtain ⟨e1, e2, e3⟩ := repr_gd c (gdC_in (h c hc))
        have hd' : d = c := by
          rcases hq with e | e
          · rw [e, e1] at hd; exact List.mem_singleton.mp hd
          · rw [e, e2] at hd; exact List.mem_singleton.mp hd
        omega
    have := this c (by rw [Array.foldl_toList]; exact hc)
    exact decide_eq_true this
  · rw [hc]
    exact decide_eq_true hq2
theorem gd_txt {x : Str} (h : ∀ c ∈ x.cps.toList, gdC c = true) (hl : x.length ≤ 200) : Gd 0 5000 (.str x) := by
  refine ⟨rfl, ?_, Nat.zero_le _, ?_, reprG_so h⟩
  · show PyData.strOk x = true
    unfold PyData.strOk
    rw [Array.all_eq_true_iff_forall_mem]
    intro c hc
    have := (repr_gd c (gdC_in (h c (by simpa using hc)))).2.2
    exact decide_eq_true (by omega)
  · have := reprText_len x (fun c hc => by
      have := (repr_gd c (gdC_in (h c hc))).2.2
      omega)
    show (reprText x).length ≤ 5000
    omega
end L2.G42
namespace K71
open PySem L2 L2.G42
open Evl (pss_cut)
open PyProof.Rows (boot_isinstance boot_str boot_tuple boot_bool)
theorem goal_kind {z k : Str} {p : List Str} {e : Bool} (h : goalP z = some (k, p, e)) : k = "shown" ∨ kindsG.contains k = true := by
  unfold goalP at h
  split at h
  · injection h with h
    injection h with h
    exact .inl h.symm
  · unfold goalW at h
    split at h
    · split at h
      · rename_i h1
        rw [Option.map_eq_some_iff] at h
        obtain ⟨q, _, h2⟩ := h
        injection h2 with h2
        rw [← h2]
        exact .inr h1
      · cases h
    · split at h
      · rename_i h1
        rw [Option.map_eq_some_iff] at h
        obtain ⟨q, _, h2⟩ := h
        injection h2 with h2
        rw [← h2]
        exact .inr (states_kinds h1.1)
      · cases h
    · cases h
theorem goal_shown {z k : Str} {p : List Str} {e : Bool} (h : goalP z = some (k, p, e)) (hk : k = "shown") : p = [] ∧ e = false := by
  have := goal_text h
  unfold goalP at h
  split at h
  · injection h with h
    injection h with _ h
    injection h with h1 h2
    exact ⟨h1.symm, h2.symm⟩
  · rename_i hz
    unfold goalT at this
    rw [if_pos hk] at this
    exact absurd this.symm hz
theorem kind_so {k : Str} (h : k = "shown" ∨ kindsG.contains k = true) : PyData.strOk k = true := by
  have : ∀ y ∈ Str.ofString "shown" :: kindsG, PyData.strOk y = true := by decide +kernel
  rcases h with h | h
  · exact this k (by rw [h]; exact List.mem_cons_self)
  · exact this k (List.mem_cons_of_mem _ (List.contains_iff_mem.mp h))
theorem shaped_goal {k : Str} {p : List Str} {e : Bool} (sk : PyData.strOk k = true) (sp : SoAll p) : SeqAt.shaped (.tuple [.str k, .tuple (dS p), .bool e]) = true := by
  refine Bool.and_eq_true_iff.mpr ⟨?_, decide_eq_true ?_⟩
  · simp only [PyData.canLay0, PyData.canLayAll0, canS p sp, sk]
    rfl
  · simp only [PyData.depth, PyData.depthAll, depS]
    decide
theorem eqv_goal {k : Str} {p : List Str} {e : Bool} : PyData.eqv (.tuple [.str k, .tuple (dS p), .bool e]) (.tuple [.str k, .tuple (dS p), .bool e]) = true := by
  simp only [PyData.eqv, PyData.eqvAll]
  have := eqv_tup p p
  rw [decide_eq_true rfl] at this
  simp only [PyData.eqv] at this
  rw [this]
  simp
abbrev sRefd : Stmt := top 19
theorem scRefd : FnScope ["_law_text", "e"] ["_law_text"] (defScope sRefd) := ⟨rfl, rfl, rfl, by decide +kernel, rfl, by decide +kernel, by decide +kernel⟩
/-- what the written part says of BadGoal -/
structure GbT (K : PySem.W.Frag) (mg : Str → Option Value) (B N : Addr) : Prop where
  gl : mg "BadGoal" = some (.ref B)
  xf : XfC K B
  xd : ExcD K B
  no : PySem.W.findIn K (.ref B) "goal" = some none
  te : PySem.W.exmOne K (.ref B) (.ref B) = some true
  ne : mg "NestedError" = some (.ref N)
  le : mg "LookupError" = none
  kn : PySem.W.kitOne K (.ref B) (.ref N) = some true
  kl : PySem.W.kitOne K (.ref B) (.type "LookupError") = some false
def spRefd (K : PySem.W.Frag) : Sp := fun vs H Q _ => ∃ (x : V) (d : PyData) (n s : Nat), vs = [x] ∧ Dp K H x d ∧ Gd n s d ∧ n ≤ 60 ∧ s ≤ sizeLine ∧ (∀ z, d = .str z → z.length ≤ 200 ∧ goalP z = none) ∧ ∀ H' : Hp, But (fun _ => False) H H' → Q (.bl true) H'
def spFits : Sp := fun vs H Q _ => ∃ z : Str, vs = [.str z] ∧ z.length ≤ 200 ∧ (∀ c ∈ z.cps.toList, gdC c = true) ∧ ∀ H' : Hp, But (fun _ => False) H H' → Q (.bl true) H'
abbrev sFits : Stmt := top 20
abbrev NFits : List Str := ["_law_text", "_law_due", "_law_told", "_law_other"]
theorem scFits : FnScope NFits ["_law_text"] (defScope sFits) := ⟨rfl, rfl, rfl, by decide +kernel, rfl, by decide +kernel, by decide +kernel⟩
section
variable {P : Program} {w : World} {K : PySem.W.Frag} {mg : Str → Option Value} {base : Heap} {G B N et : Addr} {mc : Value}
theorem ok_refd {f : Addr} {fd : FuncData} (F : Fun K "_law_refused" "_law_refused" sRefd f fd) (T : Bn mg) (X1 : GbT K mg B N) (gl : mg "Goal" = some (.ref G)) (cRead : CmX P w K mg base 3 G mc "read" (spGRead K G B)) : FnG P w K mg base CX0 4 f fd ["_law_text"] (spRefd K) := by
  refine Fun.okG F scRefd (fun vs H Q E h => ?_) (fun cdv A outer s H vs Q E hr gu h => ?_)
  · obtain ⟨x, d, n, s, rfl, _⟩ := h
    rfl
  · obtain ⟨x, d, n, s, rfl, hd, gd, hn, hs, hz, k⟩ := h
    have hu := hr.units
    refine ⟨_, (pss_cons (ps_try_as (i := 1) rfl rfl scRefd.nd rfl rfl ⟨rfl, by decide, .inl X1.gl⟩ takes0
        (fun W pn xe tk _ => pss_one (ps_expr (pe_cmS cRead tk hr (by decide) (pe_glob (v := .ref G) rfl gl rfl) (pa_cons (pv 0) pa_nil))))
        (fun a oe cls d pn hz hf => pss_one (ps_ret (pe_and (pe_cmpR op_eq (pe_callB (call_reprK (K := K) rfl gu hu) (by rfl) T.repr boot_repr (pa_cons (pe_xf X1.xf X1.no hz hf (pv 1)) pa_nil)) (pe_callB (call_reprK (K := K) rfl gu hu) (by rfl) T.repr boot_repr (pa_cons (pv 0) pa_nil)) (nomark _))
          (pe_and (pe_callB (call_isD X1.xd hz hf) (by rfl) T.isi boot_isinstance (pa_cons (pv 1) (pa_cons (pe_glob (v := .ref N) rfl X1.ne rfl) pa_nil)))
          (pe_one (pe_not (pe_callB (call_isD X1.xd hz hf) (by rfl) T.isi boot_isinstance (pa_cons (pv 1) (pa_cons (pe_bltn (v := .ty "LookupError") (by rfl) X1.le (by decide +kernel) rfl) pa_nil))))))))))
      (pss_one (ps_ret pe_bl))), ?_⟩
    refine ⟨rfl, _, rfl, x, d, rfl, hd, gd.shaped (by omega), fun z e => (hz z e).1, fun _ e H' he ee g => ?_, fun z k p e0 e1 e2 => ?_⟩
    · refine ⟨true, X1.te, fun _ a ha => ?_, fun q => nomatch q⟩
      refine ⟨_, rfl, rfl, rfl, e, _, x, rfl, ee, by simp [List.lookup], x, d, rfl, Dp.grow hd g, gd.sh, gd.noDict, Nat.le_trans gd.ln hs, Nat.le_trans gd.dp hn, ?_⟩
      refine ⟨_, rfl, x, d, rfl, Dp.grow hd g, gd.sh, gd.noDict, Nat.le_trans gd.ln hs, Nat.le_trans gd.dp hn, rfl, _, rfl, ?_⟩
      rw [decide_eq_true rfl]
      refine iteT ⟨_, rfl, .ref N, .ref N, true, e, _, rfl, rfl, rfl, ee, fun u r => r, X1.kn, _, rfl, iteT ?_⟩
      exact ⟨_, rfl, .ty "LookupError", .type "LookupError", false, e, _, rfl, rfl, rfl, ee, fun u r => r, X1.kl, _, rfl, k H' g⟩
    · rw [(hz z e1).2] at e2
      cases e2
theorem ok_fits {f : Addr} {fd : FuncData} (F : Fun K "_law_fits" "_law_fits" sFits f fd) (T : Bn mg) (Gc : GlC K G) (Gy : BkTy K G) (gl : mg "Goal" = some (.ref G)) (M : GlM P w K mg base G et) (cLRead : Cl P w K mg base 3 "_law_read" (spLRead K) []) (cRead : CmX P w K mg base 3 G mc "read" (spGRead K G B)) (cRefd : ClG P w K mg base 4 "_law_refused" (spRefd K) [])
    (cStr : Own1 P w K mg base 2 G "__str__" (spGStr K G)) (oEq : OwnEq P w K mg base 5 G (spGEq K G)) : FnG P w K mg base CX0 7 f fd ["_law_text"] spFits := by
  refine Fun.okG F scFits (fun vs H Q E h => ?_) (fun cdv A outer s H vs Q E hr gu h => ?_)
  · obtain ⟨z, rfl, _⟩ := h
    rfl
  · obtain ⟨z, rfl, hz, hc, k⟩ := h
    have hu := hr.units
    refine ⟨_, (pss_cons (ps_set (i := 1) scFits.nd rfl (.inl rfl) (pe_c cLRead hr (by decide) rfl (pa_cons (pv 0) pa_nil)))
      (pss_cut (ps_if (pt_cmpR op_isN (pv 1) pe_non rfl) (pss_one (ps_ret (pe_cg cRefd hr (by decide) gu rfl (pa_cons (pv 0) pa_nil)))) pss_nil)
      (pss_cons (ps_set (i := 2) scFits.nd rfl (.inl rfl) (pe_cm0 cRead hr (by decide) (pe_glob (v := .ref G) rfl gl rfl) (pa_cons (pv 0) pa_nil)))
      (pss_cut (ps_if (PW.pt (pw_or (pt_cmpR (op_neD hu) (pe_tup (pa_cons (pe_fld (pv 2) rfl) (pa_cons (pe_fld (pv 2) rfl) (pa_cons (pe_fld (pv 2) rfl) pa_nil)))) (pv 1) (nomark _)) (pw_or (pt_not (pt_val (pe_callB call_isi (by rfl) T.isi boot_isinstance (pa_cons (pe_fld (pv 2) rfl) (pa_cons (pe_bltn (v := .ty "tuple") (by rfl) T.tuple boot_tuple rfl) pa_nil))))) (pw_or1 (pt_cmpR op_ne (pe_callTy (cr_strO cStr hr (by decide)) (by rfl) T.str boot_str (pa_cons (pv 2) pa_nil)) (pv 0) (nomark _)))))) (pss_one (ps_ret pe_bl)) pss_nil)
      (pss_cut (ps_set (i := 3) scFits.nd rfl (.inl rfl) (pe_ifExp (pt_cmpR op_ne (pe_ix ix_tup (pv 1) pe_int (fun _ _ => rfl)) pe_str (nomark _)) (pe_mkNG M.two hr (by decide) rfl gl (pa_cons (pe_ix ix_tup (pv 1) pe_int (fun _ _ => rfl)) (pa_cons (pe_ix ix_tup (pv 1) pe_int (fun _ _ => rfl)) pa_nil)) (pk_cons (pe_ix ix_tup (pv 1) pe_int (fun _ _ => rfl)) pk_nil)) (pe_mk (M.one.nw gl) hr (by decide) rfl (pa_cons pe_str pa_nil))))
      (pss_one (ps_ret (pe_and (pe_cmpR (op_eqO rfl oEq hr (by decide)) (pv 2) (pv 3) (nomark _)) (pe_and (pe_not (pe_cmpR (op_neO rfl oEq hr (by decide)) (pv 2) (pv 3) (nomark _))) (pe_one (pe_callB call_isi (by rfl) T.isi boot_isinstance (pa_cons (pe_fld (pv 2) rfl) (pa_cons (pe_bltn (v := .ty "bool") (by rfl) T.bool boot_bool rfl) pa_nil))))))))))))), ?_⟩
    have gdz := gd_txt hc hz
    have nB : PySem.W.kitOne K (.type "bool") (.type "bool") = some true := kit_isBool (d := .bool true) (fun _ h => nomatch h)
    refine ⟨_, rfl, z, rfl, hz, fun hg H1 g1 => ?_, fun k0 p e hg r t H1 hr1 h1 h2 g1 => ?_⟩
    · refine ⟨fun _ _ => False, ⟨_, rfl, rfl, _, rfl, iteT ?_⟩, fun _ _ h => h.elim⟩
      exact ⟨_, rfl, _, _, 0, 5000, rfl, .str z, gdz, by decide, by decide, (fun y hy => by cases hy; exact ⟨hz, hg⟩), fun H2 g2 => k H2 (g1.trans g2)⟩
    · refine ⟨fun σ H2 => σ = [some (.str z), some (.ref r), none, none] ∧ H2 = H1, ⟨_, rfl, rfl, _, rfl, iteF ⟨rfl, rfl⟩⟩, ?_⟩
      rintro σ H2 ⟨rfl, e2⟩
      cases e2
      refine ⟨rfl, _, rfl, .str z, .str z, rfl, .str z, gdz.shaped (by decide), (fun y hy => by cases hy; exact hz), (fun h => by rw [h z rfl] at hg; cases hg), fun z' k' p' e' ez hg' g c H2 hg2 ga2 g2 => ?_⟩
      cases ez
      rw [hg] at hg'
      cases hg'
      have gt := goal_text hg
      have h1' := g2 _ _ h1 id
      have h2' := SqT.grow h2 g2
      have gg2 := g1.trans g2
      obtain ⟨dx, ob⟩ := ga2.ob
      have ks := goal_keys hg
      have so : SoAll p := fun x hx => key_so (ks x hx)
      have sok := kind_so (goal_kind hg)
      have shG : SeqAt.shaped (.tuple [.str k0, .tuple (dS p), .bool e]) = true := shaped_goal sok so
      refine ⟨fun σ H3 => σ = [some (.str z), some (.ref r), some (.ref g), none] ∧ But (fun _ => False) H2 H3, ?_, ?_⟩
      · refine ⟨_, rfl, g, G, dx, _, _, rfl, ob, Gc.cl, Gc.n0, rfl, _, rfl, g, G, dx, _, _, rfl, ob, Gc.cl, Gc.n1, rfl, _, rfl, g, G, dx, _, _, rfl, ob, Gc.cl, Gc.n2, rfl, szle (by simp), fun q hq => ?_⟩
        have g3 : But (fun _ => False) H2 (upd H2 q (.tup [.str k0, .ref c, .bl e])) := But.new hq
        refine ⟨_, rfl, .tuple [.str k0, .tuple (dS p), .bool e], .tuple [.str k0, .tuple (dS p), .bool e], .tup (.inl (.inl upd_same)) (.cons (.str _) (.cons (dpT (SqT.grow ga2.pl g3)) (.cons (.bl _) .nil))), .tup (.inl (.inl (g3 _ _ h1' id))) (.cons (.str _) (.cons (dpT (SqT.grow h2' g3)) (.cons (.bl _) .nil))), shG, shG, _, rfl, ?_⟩
        rw [eqv_goal]
        refine iteF ⟨_, rfl, g, G, dx, _, _, rfl, g3 _ _ ob id, Gc.cl, Gc.n1, rfl, .ref c, .ty "tuple", _, _, _, rfl, .ty _, ty_d (dpT (SqT.grow ga2.pl g3)), kit_isTup (d := .tuple (dS p)) (fun _ h => nomatch h), _, rfl, iteF ?_⟩
        refine ⟨_, rfl, g, dx, _, rfl, g3 _ _ ob id, g, c, k0, p, e, rfl, ga2.grow g3, fun H3 g33 => ⟨_, rfl, _, rfl, rfl, _, rfl, ?_⟩⟩
        rw [gt, decide_eq_true rfl]
        exact iteF ⟨rfl, g3.trans g33⟩
      rintro σ H3 ⟨rfl, g3⟩
      have ga3 := ga2.grow g3
      have gg3 := gg2.trans g3
      have h13 := g3 _ _ h1' id
      have h23 := SqT.grow h2' g3
      refine ⟨fun σ H4 => ∃ o c2, σ = [some (.str z), some (.ref r), some (.ref g), some (.ref o)] ∧ But (fun _ => False) H3 H4 ∧ GlAt K G H4 o c2 k0 p e, ?_, ?_⟩
      · refine ⟨_, rfl, r, _, _, _, rfl, rfl, SqT.of h13, atI_nat (j := 0) rfl, rfl, _, rfl, ?_⟩
        have g4 : ∀ (o dy : Addr) (fs : List (Str × V)), H3 o = none → H3 dy = none → But (fun _ => False) H3 (upd (upd (upd H3 dy (.own o)) o (.ins G dy [])) o (.ins G dy fs)) := fun o dy fs ho hdy b u hb _ => by
          rw [upd_ne (ne_of_none hb ho), upd_ne (ne_of_none hb ho), upd_ne (ne_of_none hb hdy)]
          exact hb
        by_cases hk : k0 = "shown"
        · rw [decide_eq_true (show V.str k0 = V.str "shown" by rw [hk])]
          refine iteF ?_
          intro o dy ho hdy ne
          refine ⟨o, dy, .str "shown", .ref et, .bl false, rfl, upd_same, rfl, ?_⟩
          obtain ⟨ep, ee⟩ := goal_shown hg hk
          subst hk ep ee
          exact ⟨o, et, rfl, g4 o dy _ ho hdy, ⟨dy, upd_same⟩, M.emp _, by simp, by simp, by decide +kernel⟩
        · rw [decide_eq_false (show ¬ V.str k0 = V.str "shown" from fun q => hk (by injection q))]
          refine iteT ⟨_, rfl, r, _, _, _, rfl, rfl, SqT.of h13, atI_nat (j := 0) rfl, _, rfl, r, _, _, _, rfl, rfl, SqT.of h13, atI_nat (j := 1) rfl, _, rfl, r, _, _, _, rfl, rfl, SqT.of h13, atI_nat (j := 2) rfl, rfl, rfl, ?_⟩
          intro o dy ho hdy ne
          refine ⟨o, dy, .str k0, .ref t, .bl e, rfl, upd_same, rfl, ?_⟩
          exact ⟨o, t, rfl, g4 o dy _ ho hdy, ⟨dy, upd_same⟩, SqT.grow h23 (g4 o dy _ ho hdy), ga3.lp, ga3.l8, ga3.lk⟩
      rintro σ H4 ⟨o, c2, rfl, g4, ga4⟩
      have ga4' := ga3.grow g4
      obtain ⟨dx4, ob4⟩ := ga4'.ob
      obtain ⟨dy4, oc4⟩ := ga4.ob
      refine ⟨_, rfl, _, rfl, g, dx4, _, _, rfl, ob4, Gy.ty oc4, nf_self, g, c, k0, p, e, _, rfl, ga4', .inl ⟨o, c2, k0, p, e, rfl, ga4, fun H5 g5 => ⟨_, rfl, ?_⟩⟩⟩
      rw [decide_eq_true rfl]
      refine iteT ⟨_, rfl, _, rfl, g, dx4, _, _, rfl, g5 _ _ ob4 id, Gy.ty (g5 _ _ oc4 id), nf_self, g, c, k0, p, e, _, rfl, ga4'.grow g5, .inl ⟨o, c2, k0, p, e, rfl, ga4.grow g5, fun H6 g6 => ⟨_, rfl, _, rfl, ?_⟩⟩⟩
      rw [decide_eq_true rfl]
      refine ⟨_, rfl, iteT ?_⟩
      refine ⟨_, rfl, g, G, dx4, _, _, rfl, g6 _ _ (g5 _ _ ob4 id) id, Gc.cl, Gc.n2, rfl, .bl e, .ty "bool", _, _, _, rfl, .ty _, ty_d (.bl e), kit_isBool (d := .bool e) (fun _ h => nomatch h), ?_⟩
      exact k H6 (((gg3.trans g4).trans g5).trans g6)
end
end K71

set_option Elab.async false
set_option linter.all false
set_option maxRecDepth 100000
set_option maxHeartbeats 4000000
set_option pp.maxSteps 1500
namespace K71
open PySem L2 L2.G42
open Evl (pss_cut)
abbrev sSpoilt : Stmt := top 21
abbrev NSpoilt : List Str := ["_law_pot_here", "_law_text", "_law_at", "_law_sign", "_law_how"]
theorem scSpoilt : FnScope NSpoilt ["_law_pot_here", "_law_text"] (defScope sSpoilt) := ⟨rfl, rfl, rfl, by decide +kernel, rfl, by decide +kernel, by decide +kernel⟩
def spSpoilt : Sp := fun vs H Q _ => ∃ (a : Addr) (l : List Nat), vs = [.ref a, .str (tx l)] ∧ SrcAt H a ∧ 0 < l.length ∧ l.length ≤ 95 ∧ (∀ c ∈ l, gdC c = true) ∧ ∀ (m : List Nat) (H' : Hp), m.length ≤ 195 → (∀ c ∈ m, gdC c = true) → SrcAt H' a → But (· = a) H H' → Q (.str (tx m)) H'
section
variable {P : Program} {w : World} {K : PySem.W.Frag} {mg : Str → Option Value} {base : Heap}
theorem cut_all (l : List Nat) (i : Nat) : cutS (tx l) (some ((i : Int) + 1)) none = tx (l.drop (i + 1)) := by
  rw [show ((i : Int) + 1) = ((i + 1 : Nat) : Int) by omega]
  exact cut_suf l (i + 1)
theorem ok_spoilt {f : Addr} {fd : FuncData} (F : Fun K "_law_spoilt" "_law_spoilt" sSpoilt f fd) (T : Bn mg) (cDraw : Cl P w K mg base 1 "_law_draw" spTake []) (cOf : Cl P w K mg base 2 "_law_of" spOfS []) : FnOk P w K mg base CX0 3 f fd ["_law_pot_here", "_law_text"] spSpoilt := by
  refine F.ok scSpoilt (fun vs H Q E h => ?_) (fun cdv A outer s H vs Q E hr h => ?_)
  · obtain ⟨a, l, rfl, _⟩ := h
    rfl
  · obtain ⟨a, l, rfl, S, h0, h1, hc, k⟩ := h
    refine ⟨_, (pss_cut (ps_par (i := 2) (j := 3) rfl scSpoilt.nd rfl rfl (by decide) rfl rfl (pa_cons (pe_c cDraw hr (by decide) rfl (pa_cons (pv 0) (pa_cons (pe_callB call_len_str (by rfl) T.len PySem.boot_len (pa_cons (pv 1) pa_nil)) pa_nil))) (pa_cons (pe_c cOf hr (by decide) rfl (pa_cons (pv 0) (pa_cons pe_str pa_nil))) pa_nil)) (by rfl))
      (pss_cut (ps_set (i := 4) scSpoilt.nd rfl (.inl rfl) (pe_c cDraw hr (by decide) rfl (pa_cons (pv 0) (pa_cons pe_int pa_nil))))
      (pss_one (ps_ret (pe_op op_add_str (pe_slice sl_str (pv 1) po_none (po_some (pv 2))) (pe_ix ix_list (pe_lst (pa_cons (pe_slice sl_str (pv 1) (po_some (pe_op op_add (pv 2) pe_int)) po_none) (pa_cons (pe_op op_add_str (pe_ix ix_str (pv 1) (pv 2) (fun _ _ => rfl)) (pe_slice sl_str (pv 1) (po_some (pv 2)) po_none)) (pa_cons (pe_op op_add_str (pv 3) (pe_slice sl_str (pv 1) (po_some (pe_op op_add (pv 2) pe_int)) po_none)) (pa_cons (pe_op op_add_str (pv 3) (pe_slice sl_str (pv 1) (po_some (pv 2)) po_none)) pa_nil))))) (pv 4) (fun _ _ => rfl))))))), ?_⟩
    have tl := tx_len l
    refine ⟨fun σ H1 => ∃ (i : Nat) (ch : Nat) (c : Nat), σ = [some (.ref a), some (.str (tx l)), some (.int (i : Int)), some (.str (tx [ch])), none] ∧ l[i]? = some c ∧ gdC ch = true ∧ SrcAt H1 a ∧ But (· = a) H H1, ?_, ?_⟩
    · refine ⟨_, rfl, _, rfl, tx l, rfl, szle (by omega), a, _, rfl, by omega, ?_, S, fun r c st n r0 r1 => ?_⟩
      · rw [Int.natAbs_natCast]; exact Nat.lt_of_le_of_lt (Nat.log2_le_self _) (by omega)
      obtain ⟨i, rfl⟩ := Int.eq_ofNat_of_zero_le r0
      have hi : i < l.length := by omega
      refine ⟨_, rfl, a, _, rfl, ⟨_, _, _, upd_same⟩, by decide +kernel, by decide +kernel, fun j ch c2 st2 n2 hj => ⟨_, _, rfl, i, ch, l[i], rfl, List.getElem?_eq_getElem hi, ?_, ⟨_, _, _, upd_same⟩, (But.at (S := (· = a)) rfl).trans (But.at rfl)⟩⟩
      exact (by decide +kernel : ∀ c ∈ (Str.ofString "[] aeoz_Z0.").cps.toList, gdC c = true) ch (List.mem_of_getElem? hj)
    rintro σ H1 ⟨i, ch, c, rfl, hi, hch, S1, g1⟩
    refine ⟨fun σ H2 => ∃ (j : Nat), σ = [some (.ref a), some (.str (tx l)), some (.int (i : Int)), some (.str (tx [ch])), some (.int (j : Int))] ∧ j < 4 ∧ SrcAt H2 a ∧ But (· = a) H H2, ?_, ?_⟩
    · refine ⟨_, rfl, a, _, rfl, by decide, by decide, S1, fun r c st n r0 r1 => ?_⟩
      obtain ⟨j, rfl⟩ := Int.eq_ofNat_of_zero_le r0
      exact ⟨j, rfl, by omega, ⟨_, _, _, upd_same⟩, g1.trans (But.at rfl)⟩
    rintro σ H2 ⟨j, rfl, hj, S2, g2⟩
    have hil : i < l.length := by
      rcases Nat.lt_or_ge i l.length with h | h
      · exact h
      · rw [List.getElem?_eq_none h] at hi; cases hi
    have sl : (tx l).length ≤ sizeLine := szle (by omega)
    have sa : ∀ x y : List Nat, x.length ≤ 200 → y.length ≤ 300 → (tx x).length + (tx y).length ≤ sizeLine := fun x y hx hy => szle (by rw [tx_len, tx_len]; omega)
    refine ⟨_, rfl, _, rfl, _, rfl, ?_⟩
    refine ⟨tx l, rfl, sl, ?_⟩
    rw [cut_pre]
    refine ⟨_, rfl, _, rfl, _, _, rfl, rfl, _, rfl, ?_⟩
    dsimp only [tNoPart]
    refine ⟨tx l, rfl, sl, ?_⟩
    rw [cut_all]
    refine ⟨_, rfl, _, rfl, tx l, _, c, rfl, rfl, sl, atI_nat (by rw [tx_cps]; exact hi), _, rfl, _, rfl, _, rfl, ?_⟩
    dsimp only [tNoPart]
    refine ⟨tx l, rfl, sl, ?_⟩
    rw [cut_suf]
    refine ⟨_, _, rfl, rfl, sa _ _ (by simp) (by rw [List.length_drop]; omega), ?_⟩
    rw [tx_app]
    refine ⟨_, rfl, _, rfl, _, rfl, _, _, rfl, rfl, _, rfl, ?_⟩
    dsimp only [tNoPart]
    refine ⟨tx l, rfl, sl, ?_⟩
    rw [cut_all]
    refine ⟨_, _, rfl, rfl, sa _ _ (by simp) (by rw [List.length_drop]; omega), ?_⟩
    rw [tx_app]
    refine ⟨_, rfl, _, rfl, _, rfl, _, rfl, ?_⟩
    dsimp only [tNoPart]
    refine ⟨tx l, rfl, sl, ?_⟩
    rw [cut_suf]
    refine ⟨_, _, rfl, rfl, sa _ _ (by simp) (by rw [List.length_drop]; omega), ?_⟩
    rw [tx_app]
    refine ⟨szle (by simp), fun L hL => ?_⟩
    have os : ∃ o, [l.drop (i + 1), [c] ++ l.drop i, [ch] ++ l.drop (i + 1), [ch] ++ l.drop i][j]? = some o ∧ o.length ≤ l.length + 1 ∧ ∀ x ∈ o, gdC x = true := by
      have dc : ∀ n, ∀ x ∈ l.drop n, gdC x = true := fun n x hx => hc x (List.mem_of_mem_drop hx)
      have cc : gdC c = true := hc c (List.mem_of_getElem? hi)
      match j, hj with
      | 0, _ => exact ⟨_, rfl, by rw [List.length_drop]; omega, dc _⟩
      | 1, _ => exact ⟨_, rfl, by rw [List.length_append, List.length_drop]; simp; omega, fun x hx => (List.mem_append.mp hx).elim (fun h => by rw [List.mem_singleton.mp h]; exact cc) (dc _ x)⟩
      | 2, _ => exact ⟨_, rfl, by rw [List.length_append, List.length_drop]; simp; omega, fun x hx => (List.mem_append.mp hx).elim (fun h => by rw [List.mem_singleton.mp h]; exact hch) (dc _ x)⟩
      | 3, _ => exact ⟨_, rfl, by rw [List.length_append, List.length_drop]; simp; omega, fun x hx => (List.mem_append.mp hx).elim (fun h => by rw [List.mem_singleton.mp h]; exact hch) (dc _ x)⟩
    obtain ⟨o, ho, lo, co⟩ := os
    have hat : ([V.str (tx (l.drop (i + 1))), V.str (tx ([c] ++ l.drop i)), V.str (tx ([ch] ++ l.drop (i + 1))), V.str (tx ([ch] ++ l.drop i))] : List V)[j]? = some (V.str (tx o)) := by
      have := congrArg (Option.map fun x => V.str (tx x)) ho
      rw [← List.getElem?_map] at this
      exact this
    refine ⟨_, rfl, L, _, _, _, rfl, rfl, SqL.of upd_same, atI_nat hat, _, _, rfl, rfl, sa _ _ (by rw [List.length_take]; omega) (by omega), ?_⟩
    rw [tx_app]
    obtain ⟨c0, st0, n0, hs⟩ := S2
    refine k (l.take i ++ o) _ (by rw [List.length_append, List.length_take]; omega) (fun x hx => (List.mem_append.mp hx).elim (fun h => hc x (List.mem_of_mem_take h)) (co x)) ⟨c0, st0, n0, ?_⟩ (g2.trans (But.new hL))
    rw [upd_ne (ne_of_none hs hL)]
    exact hs
end
end K71

set_option Elab.async false
set_option linter.all false
set_option maxRecDepth 100000
set_option maxHeartbeats 4000000
set_option pp.maxSteps 1500
namespace K71
open PySem L2 L2.G42
open Evl (pss_cut)
open _root_.ClX (CRead CVal pe_cval)
open PyProof.Rows (boot_isinstance boot_str boot_tuple boot_bool boot_list)
abbrev sRight : Stmt := top 22
abbrev NRight : List Str := ["_law_pot_here", "_law_kind", "_law_turn", "_law_words", "_law_word_here", "_law_place", "_law_is_end", "_law_text", "_law_other", "_law_wrong", "_law_odd", "_law_one"]
theorem scRight : FnScope NRight ["_law_pot_here"] (defScope sRight) := ⟨rfl, rfl, rfl, by decide +kernel, rfl, by decide +kernel, by decide +kernel⟩
def spRight : Sp := fun vs H Q _ => ∃ a : Addr, vs = [.ref a] ∧ SrcAt H a ∧ ∀ H' : Hp, But (· = a) H H' → Q (.bl true) H'
def okD (d : PyData) : Prop := ∃ n s, Gd n s d ∧ n ≤ 60 ∧ s ≤ sizeLine ∧ ∀ z, d = .str z → z.length ≤ 200 ∧ goalP z = none
theorem all_rep (n : Nat) : (List.replicate n true).all id = true := by
  rw [List.all_eq_true]
  intro x hx
  rw [(List.mem_replicate.mp hx).2]
  rfl
theorem rep_snoc (n : Nat) : (List.replicate n true).map V.bl ++ [V.bl true] = (List.replicate (n + 1) true).map V.bl := by
  rw [List.replicate_succ', List.map_append]
  rfl
theorem wd_key {x : Str} (h : isWd x = true) (h2 : reserved.contains x = false) : isKey x = true := by
  unfold isWd at h
  unfold isKey
  simp only [Bool.and_eq_true] at h
  rw [h.1.1, h.1.2, h2, h.2]
  rfl
theorem src_ne {H : Hp} {a b : Addr} (h : SrcAt H a) (hb : H b = none) : b ≠ a := fun e => by
  obtain ⟨c, st, n, h⟩ := h
  rw [e, h] at hb
  cases hb
theorem SrcAt.grow {H H' : Hp} {a : Addr} (h : SrcAt H a) (g : But (fun _ => False) H H') : SrcAt H' a := by
  obtain ⟨c, st, n, h⟩ := h
  exact ⟨c, st, n, g _ _ h id⟩
theorem But.up {S : Addr → Prop} {H H' : Hp} (g : But (fun _ => False) H H') : But S H H' := g.mono fun _ h => h.elim
theorem dpApp {K : PySem.W.Frag} {H : Hp} : ∀ {vs : List V} {ds : List PyData} {us : List V} {es : List PyData}, DpAll K H vs ds → DpAll K H us es → DpAll K H (vs ++ us) (ds ++ es)
  | _, _, _, _, .nil, h => h
  | _, _, _, _, .cons a b, h => .cons a (dpApp b h)
section
variable {P : Program} {w : World} {K : PySem.W.Frag} {mg : Str → Option Value} {base : Heap} {G B N et : Addr} {mc : Value}
theorem ok_right {f : Addr} {fd : FuncData} (F : Fun K "_law_right" "_law_right" sRight f fd) (T : Bn mg) (Gk : GlK K G mc) (Gy : BkTy K G) (gl : mg "Goal" = some (.ref G)) (nS : BkNo K G "str") (nN : BkNo K G "NoneType") (cDraw : Cl P w K mg base 1 "_law_draw" spTake []) (cOf : Cl P w K mg base 2 "_law_of" (spOf K) []) (cOfS : Cl P w K mg base 2 "_law_of" spOfS []) (cWord : Cl P w K mg base 3 "_law_word" spLWord []) (cKept : Cl P w K mg base 1 "_law_kept" spKept [])
    (cLRead : Cl P w K mg base 3 "_law_read" (spLRead K) []) (cRead : CmX P w K mg base 3 G mc "read" (spGRead K G B)) (cRefd : ClG P w K mg base 4 "_law_refused" (spRefd K) []) (cFits : ClG P w K mg base 7 "_law_fits" spFits []) (cSpoilt : Cl P w K mg base 3 "_law_spoilt" spSpoilt [])
    (oEq : OwnEq P w K mg base 5 G (spGEq K G)) : FnG P w K mg base CX0 8 f fd ["_law_pot_here"] spRight := by
  refine Fun.okG F scRight (fun vs H Q E h => ?_) (fun cdv A outer s H vs Q E hr gu h => ?_)
  · obtain ⟨a, rfl, _⟩ := h
    rfl
  · obtain ⟨a, rfl, S, k⟩ := h
    have hu := hr.units
    obtain ⟨ka, ck, hk⟩ := Gk.kinds
    obtain ⟨sa, cs, hs⟩ := Gk.states
    refine ⟨_, (pss_cut (ps_set (i := 1) scRight.nd rfl (.inr rfl) (pe_c cOf hr (by decide) rfl (pa_cons (pv 0) (pa_cons (pe_op op_cat (pe_callTy call_list_of (by rfl) T.list boot_list (pa_cons (pe_cval (pe_glob (v := .ref G) rfl gl rfl)) pa_nil)) (pe_lst (pa_cons pe_str pa_nil))) pa_nil))))
      (pss_cut (ps_setLc (i := 3) (own := [("_law_turn", 2)]) (g := gName 2) (tt := tYes) rfl scRight.nd rfl rfl (sw_true rfl rfl rfl (by decide +kernel)) (pi_range1 (by rfl) T.range (pa_cons (pe_c cDraw hr (by decide) rfl (pa_cons (pv 0) (pa_cons pe_int pa_nil))) pa_nil)) (blkOk_by (own := [("_law_turn", 2)]) (N := NRight) (sc := defScope sRight) (by decide +kernel)) (fun _ _ _ _ _ => (pg_name (i := 2) scRight.nd rfl (.inl rfl))) (fun _ _ _ _ _ => pts_nil) (fun _ _ _ _ _ => (pe_c cWord hr (by decide) rfl (pa_cons (pv 0) pa_nil))))
      (pss_cut (ps_par (i := 5) (j := 6) rfl scRight.nd rfl rfl (by decide) rfl rfl (pa_cons (pe_callTy call_tuple_of (by rfl) T.tuple boot_tuple (pa_cons (pe_lc (own := [("_law_word_here", 4)]) (g := gName 4) (tt := _) rfl scRight.nd (pi_list (pv 3)) (blkOk_by (own := [("_law_word_here", 4)]) (N := NRight) (sc := defScope sRight) (by decide +kernel)) (fun _ _ _ _ _ => (pg_name (i := 4) scRight.nd rfl (.inl rfl))) (fun _ _ _ _ _ => (pts_one (pt_cmpR (kNotIn (K := K) rfl) (pv 4) (pe_c0 cKept hr (by decide) rfl) rfl))) (fun _ _ _ _ _ => (pv 4))) pa_nil)) (pa_cons (pe_cmpR op_eq (pe_c cDraw hr (by decide) rfl (pa_cons (pv 0) (pa_cons pe_int pa_nil))) pe_int (nomark _)) pa_nil)) (by rfl))
      (pss_cut (ps_set (i := 6) scRight.nd rfl (.inl rfl) (pe_and (pv 6) (pe_one (pe_cmpR op_in_seq (pv 1) (pe_cval (pe_glob (v := .ref G) rfl gl rfl)) rfl))))
      (pss_cut (ps_set (i := 7) scRight.nd rfl (.inr rfl) (pe_op op_add_str (pe_op op_add_str (pe_op op_add_str (pv 1) pe_str) (pe_join pe_str (pe_lc (own := [("_law_word_here", 4)]) (g := gName 4) (tt := tYes) rfl scRight.nd (pi_tup (pv 5)) (blkOk_by (own := [("_law_word_here", 4)]) (N := NRight) (sc := defScope sRight) (by decide +kernel)) (fun _ _ _ _ _ => (pg_name (i := 4) scRight.nd rfl (.inl rfl))) (fun _ _ _ _ _ => pts_nil) (fun _ _ _ _ _ => (pe_op op_add_str (pe_op op_add_str pe_str (pv 4)) pe_str))))) (pe_ifExp (pt_val (pv 6)) pe_str pe_str)))
      (pss_cut (ps_if (pt_cmpR op_eq (pv 1) pe_str (nomark _)) (pss_one (ps_set (i := 7) scRight.nd rfl (.inr rfl) pe_str)) pss_nil)
      (pss_cut (ps_if (PW.pt (pw_or (pt_cmpR op_isN (pe_c cLRead hr (by decide) rfl (pa_cons (pv 7) pa_nil)) pe_non rfl) (pw_or1 (pt_not (pt_val (pe_cg cFits hr (by decide) gu rfl (pa_cons (pv 7) pa_nil))))))) (pss_one (ps_ret pe_bl)) pss_nil)
      (pss_cut (ps_if (pt_not (pt_val (pe_callB (cr_all rfl) (by rfl) T.all boot_all (pa_cons (pe_lc (own := [("_law_turn", 2)]) (g := gName 2) (tt := tYes) rfl scRight.nd (pi_range1 (by rfl) T.range (pa_cons pe_int pa_nil)) (blkOk_by (own := [("_law_turn", 2)]) (N := NRight) (sc := defScope sRight) (by decide +kernel)) (fun _ _ _ _ _ => (pg_name (i := 2) scRight.nd rfl (.inl rfl))) (fun _ _ _ _ _ => pts_nil) (fun _ _ _ _ _ => (pe_cg cFits hr (by decide) gu rfl (pa_cons (pe_c cSpoilt hr (by decide) rfl (pa_cons (pv 0) (pa_cons (pv 7) pa_nil))) pa_nil)))) pa_nil)))) (pss_one (ps_ret pe_bl)) pss_nil)
      (pss_cut (ps_set (i := 8) scRight.nd rfl (.inl rfl) (pe_c cOf hr (by decide) rfl (pa_cons (pv 0) (pa_cons (pe_lst (pa_cons pe_str (pa_cons pe_str (pa_cons pe_str (pa_cons pe_str pa_nil))))) pa_nil))))
      (pss_cut (ps_if (pt_cmpR op_ne (pe_cmpR (op_eqO rfl oEq hr (by decide)) (pe_cm0 cRead hr (by decide) (pe_glob (v := .ref G) rfl gl rfl) (pa_cons (pv 8) pa_nil)) (pe_cm0 cRead hr (by decide) (pe_glob (v := .ref G) rfl gl rfl) (pa_cons (pv 7) pa_nil)) (nomark _)) (pe_cmpR op_eq (pv 8) (pv 7) (nomark _)) (nomark _)) (pss_one (ps_ret pe_bl)) pss_nil)
      (pss_cut (ps_set (i := 9) scRight.nd rfl (.inl rfl) (pe_op op_add_str (pe_op op_add_str (pe_op op_add_str (pv 1) pe_str) (pe_join pe_str (pe_lc (own := [("_law_turn", 2)]) (g := gName 2) (tt := tYes) rfl scRight.nd (pi_range1 (by rfl) T.range (pa_cons pe_int pa_nil)) (blkOk_by (own := [("_law_turn", 2)]) (N := NRight) (sc := defScope sRight) (by decide +kernel)) (fun _ _ _ _ _ => (pg_name (i := 2) scRight.nd rfl (.inl rfl))) (fun _ _ _ _ _ => pts_nil) (fun _ _ _ _ _ => (pe_c cOfS hr (by decide) rfl (pa_cons (pv 0) (pa_cons pe_str pa_nil))))))) pe_str))
      (pss_cut (ps_set (i := 10) scRight.nd rfl (.inl rfl) (pe_lst (pa_cons pe_non (pa_cons pe_bl (pa_cons pe_int (pa_cons (pe_lst (pa_cons pe_str pa_nil)) (pa_cons (pe_tup (pa_cons pe_str (pa_cons pe_str pa_nil))) (pa_cons pe_str (pa_cons pe_str (pa_cons pe_str (pa_cons (pe_op op_add_str (pv 1) pe_str) (pa_cons (pv 9) pa_nil))))))))))))
      (pss_cut (ps_set (i := 10) scRight.nd rfl (.inl rfl) (pe_op op_cat (pv 10) (pe_lc (own := [("_law_word_here", 4)]) (g := gName 4) (tt := tYes) rfl scRight.nd (pi_list (pe_c0 cKept hr (by decide) rfl)) (blkOk_by (own := [("_law_word_here", 4)]) (N := NRight) (sc := defScope sRight) (by decide +kernel)) (fun _ _ _ _ _ => (pg_name (i := 4) scRight.nd rfl (.inl rfl))) (fun _ _ _ _ _ => pts_nil) (fun _ _ _ _ _ => (pe_op op_add_str (pe_op op_add_str (pe_op op_add_str (pv 1) pe_str) (pv 4)) pe_str)))))
      (pss_one (ps_ret (pe_and (pe_callB (cr_all rfl) (by rfl) T.all boot_all (pa_cons (pe_lc (own := [("_law_one", 11)]) (g := gName 11) (tt := tYes) rfl scRight.nd (pi_list (pv 10)) (blkOk_by (own := [("_law_one", 11)]) (N := NRight) (sc := defScope sRight) (by decide +kernel)) (fun _ _ _ _ _ => (pg_name (i := 11) scRight.nd rfl (.inl rfl))) (fun _ _ _ _ _ => pts_nil) (fun _ _ _ _ _ => (pe_cg cRefd hr (by decide) gu rfl (pa_cons (pv 11) pa_nil)))) pa_nil)) (pe_and (pe_cmpR (op_neO rfl oEq hr (by decide)) (pe_cm0 cRead hr (by decide) (pe_glob (v := .ref G) rfl gl rfl) (pa_cons (pv 7) pa_nil)) (pv 7) (nomark _)) (pe_one (pe_not (pe_cmpR (op_eqO rfl oEq hr (by decide)) (pe_cm0 cRead hr (by decide) (pe_glob (v := .ref G) rfl gl rfl) (pa_cons (pv 7) pa_nil)) pe_non (nomark _))))))))))))))))))))), ?_⟩
    refine ⟨fun σ H1 => ∃ kd : Str, σ = [some (.ref a), some (.str kd), none, none, none, none, none, none, none, none, none, none] ∧ (kd = "shown" ∨ kindsG.contains kd = true) ∧ SrcAt H1 a ∧ But (· = a) H H1, ?_, ?_⟩
    · refine ⟨_, rfl, G, mc, _, _, rfl, Gk.rd, ck, ka, _, rfl, .inr (hk _), fun l1 hl1 => ⟨szle (by simp), fun l2 hl2 => ?_⟩⟩
      have g1 : But (fun _ => False) H (upd H l1 (.lst (kindsG.map V.str))) := But.new hl1
      have g2 : But (fun _ => False) (upd H l1 (.lst (kindsG.map V.str))) (upd (upd H l1 (.lst (kindsG.map V.str))) l2 (.lst [.str "shown"])) := But.new hl2
      refine ⟨l1, l2, _, _, rfl, rfl, g2 _ _ upd_same id, upd_same, szle (by simp [kindsG]), fun l3 hl3 => ?_⟩
      have g3 := (g1.trans g2).trans (But.new (S := fun _ => False) (o := .lst (kindsG.map V.str ++ [.str "shown"])) hl3)
      have S3 := SrcAt.grow S g3
      refine ⟨a, l3, kindsG.map V.str ++ [.str "shown"], rfl, S3, SqL.of upd_same, (src_ne S ((g1.trans g2).free hl3)).symm, by simp, by simp [kindsG], fun i v c st n hv => ?_⟩
      have hm := List.mem_of_getElem? hv
      obtain ⟨kd, hkd, rfl⟩ : ∃ kd : Str, (kd = "shown" ∨ kindsG.contains kd = true) ∧ v = .str kd := by
        rcases List.mem_append.mp hm with h | h
        · obtain ⟨kd, h1, h2⟩ := List.mem_map.mp h
          exact ⟨kd, .inr (List.contains_iff_mem.mpr h1), h2.symm⟩
        · exact ⟨"shown", .inl rfl, List.mem_singleton.mp h⟩
      exact ⟨kd, rfl, hkd, ⟨_, _, _, upd_same⟩, (But.up g3).trans (But.at rfl)⟩
    rintro σ H1 ⟨kd, rfl, hkd, S1, g1⟩
    refine ⟨fun σ H2 => ∃ (W : Addr) (ws : List Str), σ = [some (.ref a), some (.str kd), none, some (.ref W), none, none, none, none, none, none, none, none] ∧ H2 W = some (.lst (ws.map V.str)) ∧ W ≠ a ∧ ws.length ≤ 6 ∧ (∀ x ∈ ws, isWd x = true) ∧ SrcAt H2 a ∧ But (· = a) H H2, ?_, ?_⟩
    · refine ⟨_, rfl, a, 7, rfl, by decide, by decide, S1, fun r c st n r0 r1 => ?_⟩
      obtain ⟨q, rfl⟩ := Int.eq_ofNat_of_zero_le r0
      refine ⟨_, rfl, by omega, by omega, fun L hL => ?_⟩
      have hLa : L ≠ a := (ne_of_none upd_same hL).symm
      have hL0 : H1 L = none := by rw [upd_ne hLa] at hL; exact hL
      refine lc_range (lo := 0) (n := ((q : Int)).toNat) (fun i H2 => ∃ ws : List Str, H2 L = some (.lst (ws.map V.str)) ∧ ws.length = i ∧ (∀ x ∈ ws, isWd x = true) ∧ SrcAt H2 a ∧ But (· = a) H1 H2)
        ⟨[], upd_same, rfl, (fun _ h => nomatch h), ⟨_, _, _, by rw [upd_ne hLa.symm]; exact upd_same⟩, (But.at (S := (· = a)) rfl).fresh hL0⟩ (fun i H2 hi h => ?_) (fun H2 h => ?_)
      · obtain ⟨ws, h1, h2, h3, h4, h5⟩ := h
        refine ⟨rfl, _, rfl, a, rfl, h4, fun x H3 hx S3 g3 => ?_⟩
        refine ⟨_, g3 _ _ h1 hLa, szl (by rw [List.length_map]; omega), ws ++ [x], ?_, by rw [List.length_append, h2]; rfl, ?_, ?_, (h5.trans g3).fresh hL0⟩
        · rw [upd_same, List.map_append]
          rfl
        · intro y hy
          rcases List.mem_append.mp hy with hy | hy
          · exact h3 y hy
          · rw [List.mem_singleton.mp hy]; exact hx
        · obtain ⟨c, st, n, h⟩ := S3
          exact ⟨c, st, n, by rw [upd_ne hLa.symm]; exact h⟩
      · obtain ⟨ws, h1, h2, h3, h4, h5⟩ := h
        exact ⟨L, ws, rfl, h1, hLa, by omega, h3, h4, g1.trans h5⟩
    rintro σ H2 ⟨W, ws, rfl, hW, nW, lw, wd, S2, g2⟩
    refine ⟨fun σ H3 => ∃ (c : Addr) (p : List Str) (e : Bool), σ = [some (.ref a), some (.str kd), none, some (.ref W), none, some (.ref c), some (.bl e), none, none, none, none, none] ∧ H3 c = some (.tup (p.map V.str)) ∧ p.length ≤ 6 ∧ (∀ x ∈ p, isKey x = true) ∧ SrcAt H3 a ∧ But (· = a) H H3, ?_, ?_⟩
    · refine ⟨_, rfl, W, rfl, ⟨_, SqL.of hW⟩, fun D hD => ?_⟩
      refine lc_list (K := K) (a := W) (xs := ws.map V.str) (fun i H3 => H3 D = some (.lst (((ws.take i).filter fun x => !reserved.contains x).map V.str)) ∧ But (fun _ => False) H2 H3) ⟨upd_same, But.new hD⟩ (fun i H3 _ h => SqL.of (h.2 _ _ hW id)) (fun i x H3 hx h => ?_) (fun H3 h => ?_)
      · obtain ⟨h1, h2⟩ := h
        rw [List.getElem?_map, Option.map_eq_some_iff] at hx
        obtain ⟨y, hy, rfl⟩ := hx
        have ft := filter_take (fun x => !reserved.contains x) ws hy
        refine ⟨rfl, _, rfl, rfl, fun r H4 hr4 hl4 g4 => ⟨r, _, rfl, .inl (SqL.of hl4), rfl, flat_strs _, _, rfl, ?_⟩⟩
        show if (!inV (.str y) (reserved.map V.str)) = true then _ else _
        rw [inV_str]
        have h1' := g4 _ _ h1 id
        cases hc : reserved.contains y with
        | true =>
          refine iteF ⟨?_, h2.trans g4⟩
          rw [ft, hc]
          simpa using h1'
        | false =>
          refine iteT ⟨_, rfl, _, h1', szl ?_, ?_, (h2.trans g4).fresh hD⟩
          · rw [List.length_map]
            have := List.length_filter_le (fun x => !reserved.contains x) (ws.take i)
            rw [List.length_take] at this
            omega
          · rw [upd_same, ft, hc]
            simp
      · obtain ⟨h1, h2⟩ := h
        rw [List.length_map, List.take_length] at h1
        refine ⟨D, _, rfl, .inl ⟨SqL.of h1, fun c hc => ?_⟩⟩
        have g3 := h2.trans (But.new (S := fun _ => False) (o := .tup ((ws.filter fun x => !reserved.contains x).map V.str)) hc)
        have S3 := SrcAt.grow S2 g3
        refine ⟨_, rfl, a, 2, rfl, by decide, by decide, S3, fun r c2 st n r0 r1 => ⟨rfl, _, _, rfl, c, ws.filter (fun x => !reserved.contains x), _, rfl, ?_, ?_, ?_, ⟨_, _, _, upd_same⟩, (g2.trans (But.up g3)).trans (But.at rfl)⟩⟩
        · rw [upd_ne (src_ne (SrcAt.grow S2 h2) hc)]
          exact upd_same
        · exact Nat.le_trans (List.length_filter_le _ _) lw
        · intro x hx
          obtain ⟨h3, h4⟩ := List.mem_filter.mp hx
          exact wd_key (wd x h3) (by simpa using h4)
    rintro σ H3 ⟨c, p, e, rfl, hc, lp, kp, S3, g3⟩
    refine ⟨fun σ H4 => ∃ e : Bool, σ = [some (.ref a), some (.str kd), none, some (.ref W), none, some (.ref c), some (.bl e), none, none, none, none, none] ∧ H4 = H3 ∧ (e = true → statesG.contains kd = true), ?_, ?_⟩
    · refine ⟨_, rfl, _, rfl, ?_⟩
      cases e with
      | true =>
        refine iteT ⟨_, rfl, G, mc, _, _, rfl, Gk.rd, cs, sa, _, rfl, .inr (hs _), rfl, flat_strs _, _, rfl, rfl, ?_⟩
        intro h
        rw [inV_str] at h
        exact h
      | false => exact iteF ⟨false, rfl, rfl, fun h => nomatch h⟩
    rintro σ H4 ⟨e, rfl, e4, he⟩
    cases e4
    have slen : ∀ a b : Str, (a ++ b).length = a.length + b.length := fun a b => by
      show (a.cps ++ b.cps).size = _
      rw [Array.size_append]
      rfl
    have lkd : kd.length ≤ 7 := by
      have : ∀ y ∈ Str.ofString "shown" :: kindsG, y.length ≤ 7 := by decide +kernel
      rcases hkd with h | h
      · exact this kd (by rw [h]; exact List.mem_cons_self)
      · exact this kd (List.mem_cons_of_mem _ (List.contains_iff_mem.mp h))
    have mkd : kd ∈ Str.ofString "shown" :: kindsG := by
      rcases hkd with h | h
      · rw [h]; exact List.mem_cons_self
      · exact List.mem_cons_of_mem _ (List.contains_iff_mem.mp h)
    have kdc : ∀ c ∈ kd.cps.toList, letter c = true := (by decide +kernel : ∀ y ∈ Str.ofString "shown" :: kindsG, ∀ c ∈ y.cps.toList, letter c = true) kd mkd
    have l8 : ∀ x ∈ p, x.length ≤ 8 := fun x hx => key_short (kp x hx)
    refine ⟨fun σ H5 => σ = [some (.ref a), some (.str kd), none, some (.ref W), none, some (.ref c), some (.bl e), some (.str (tx (kd.cps.toList ++ 32 :: (placeT p ++ if e = true then 32 :: [101, 110, 100] else [])))), none, none, none, none] ∧ But (fun _ => False) H3 H5, ?_, ?_⟩
    · refine ⟨_, rfl, _, _, rfl, rfl, szle (by rw [show (Str.ofString " root").length = 5 by decide +kernel]; omega), ⟨_, rfl⟩, _, rfl, c, rfl, ⟨_, SqT.of hc⟩, fun D hD => ?_⟩
      refine lc_it (walk_tup (xs := p.map V.str)) (fun i H1 => H1 D = some (.lst (((p.take i).map brk).map V.str)) ∧ But (fun _ => False) H3 H1) ⟨upd_same, But.new hD⟩ (fun i H1 _ h => SqT.grow (SqT.of hc) h.2) (fun i v H1 H2 hi h y => ?_) (fun H5 h => ?_)
      · obtain ⟨rfl, hv⟩ := y
        rw [List.getElem?_map, Option.map_eq_some_iff] at hv
        obtain ⟨x, ex, rfl⟩ := hv
        have lx := l8 x (List.mem_of_getElem? ex)
        refine ⟨rfl, _, rfl, _, _, rfl, rfl, szle (by rw [show (Str.ofString "[").length = 1 by decide +kernel]; omega), _, _, rfl, rfl, szle ?_, _, h.1, szl (by rw [List.length_map, List.length_map, List.length_take]; omega), ?_, h.2.fresh hD⟩
        · rw [show (Str.ofString "]").length = 1 by decide +kernel, slen, show (Str.ofString "[").length = 1 by decide +kernel]
          omega
        · rw [upd_same, List.take_add_one, ex, List.map_append, List.map_append]
          rfl
      · obtain ⟨h1, h2⟩ := h
        rw [List.length_map, List.take_length] at h1
        have lj : (Txt.join (Str.ofString "") (p.map brk)).length ≤ 60 := by
          have h : (Txt.join (Str.ofString "") (p.map brk)).cps.toList.length = (Txt.join (Str.ofString "") (p.map brk)).length := by show _ = (Txt.join (Str.ofString "") (p.map brk)).cps.size; simp
          have h2 := placeT_len kp
          unfold placeT at h2
          rw [List.length_append, show rootL.length = 4 from rfl] at h2
          rw [← h, join_brk]
          omega
        have ee : (tx (if e = true then 32 :: [101, 110, 100] else [])).length ≤ 4 := by
          rw [tx_len]
          cases e <;> simp
        have ez : kd ++ Str.ofString " root" ++ Txt.join (Str.ofString "") (p.map brk) ++ tx (if e = true then 32 :: [101, 110, 100] else []) = tx (kd.cps.toList ++ 32 :: (placeT p ++ if e = true then 32 :: [101, 110, 100] else [])) := by
          apply str_ext
          rw [tx_cps]
          show (kd.cps ++ (Str.ofString " root").cps ++ (Txt.join (Str.ofString "") (p.map brk)).cps ++ (tx (if e = true then 32 :: [101, 110, 100] else [])).cps).toList = _
          rw [Array.toList_append, Array.toList_append, Array.toList_append, tx_cps, join_brk, show (Str.ofString " root").cps.toList = 32 :: rootL by decide +kernel]
          unfold placeT
          simp
        refine ⟨_, D, _, rfl, rfl, .inl (SqL.of h1), ?_, _, _, rfl, rfl, szle (by rw [slen, show (Str.ofString " root").length = 5 by decide +kernel]; omega), _, rfl, _, rfl, ?_⟩
        · have := brk_sum p l8
          rw [show (Str.ofString "").length = 0 by decide +kernel, Nat.mul_zero]
          omega
        rw [← ez]
        cases e with
        | true =>
          refine iteT ⟨_, _, rfl, rfl, szle (by rw [slen, slen, show (Str.ofString " root").length = 5 by decide +kernel, show (Str.ofString " end").length = 4 by decide +kernel]; omega), ?_, h2⟩
          rw [if_pos rfl, show tx (32 :: [101, 110, 100]) = Str.ofString " end" by decide +kernel]
          rfl
        | false =>
          refine iteF ⟨_, _, rfl, rfl, szle (by rw [slen, slen, show (Str.ofString " root").length = 5 by decide +kernel, show (Str.ofString "").length = 0 by decide +kernel]; omega), ?_, h2⟩
          rw [if_neg Bool.false_ne_true, show tx [] = Str.ofString "" by decide +kernel]
          rfl
    rintro σ H5 ⟨rfl, g5⟩
    have S5 := SrcAt.grow S3 g5
    have gg5 := g3.trans (But.up g5)
    refine ⟨fun σ H6 => ∃ (l : List Nat) (k' : Str) (p' : List Str) (e' : Bool), σ = [some (.ref a), some (.str kd), none, some (.ref W), none, some (.ref c), some (.bl e), some (.str (tx l)), none, none, none, none] ∧ H6 = H5 ∧ goalP (tx l) = some (k', p', e') ∧ 0 < l.length ∧ l.length ≤ 90 ∧ ∀ c ∈ l, gdC c = true, ?_, ?_⟩
    · refine ⟨_, rfl, rfl, _, rfl, ?_⟩
      by_cases hsh : kd = "shown"
      · rw [decide_eq_true (show V.str kd = V.str "shown" by rw [hsh])]
        refine iteT ⟨[115, 104, 111, 119, 110], "shown", [], false, ?_, rfl, by decide +kernel, by decide, by decide, by decide⟩
        rw [show tx [115, 104, 111, 119, 110] = Str.ofString "shown" by decide +kernel]
        rfl
      · rw [decide_eq_false (show ¬ V.str kd = V.str "shown" from fun q => hsh (by injection q))]
        have hk' := hkd.resolve_left hsh
        have et : goalT kd p e = tx (kd.cps.toList ++ 32 :: (placeT p ++ if e = true then 32 :: [101, 110, 100] else [])) := by
          unfold goalT
          rw [if_neg hsh]
        have b1 := goal_back hk' kp he
        have b2 := goalT_len (e := e) hkd kp lp
        have b3 := goalT_c (e := e) hkd kp
        rw [et] at b1 b2 b3
        rw [tx_len] at b2
        rw [tx_cps] at b3
        exact iteF ⟨_, kd, p, e, rfl, rfl, b1, b2.1, b2.2, b3⟩
    rintro σ H6 ⟨l, k', p', e', rfl, e6, hg, l0, l1, lc⟩
    cases e6
    have tl := tx_len l
    have tc : ∀ c ∈ (tx l).cps.toList, gdC c = true := by rw [tx_cps]; exact lc
    have gdl := gd_txt tc (by omega)
    refine ⟨fun σ H7 => σ = [some (.ref a), some (.str kd), none, some (.ref W), none, some (.ref c), some (.bl e), some (.str (tx l)), none, none, none, none] ∧ But (fun _ => False) H5 H7, ?_, ?_⟩
    · refine ⟨_, rfl, tx l, rfl, by omega, fun h => (by rw [h] at hg; cases hg), fun k0 p0 e0 h0 r t H7 hr7 h7 ht7 g7 => ⟨rfl, _, rfl, iteF ?_⟩⟩
      exact ⟨_, rfl, tx l, rfl, by omega, tc, fun H8 g8 => ⟨_, rfl, iteF ⟨rfl, g7.trans g8⟩⟩⟩
    rintro σ H7 ⟨rfl, g7⟩
    have S7 := SrcAt.grow S5 g7
    have gg7 := gg5.trans (But.up g7)
    refine ⟨fun σ H8 => σ = [some (.ref a), some (.str kd), none, some (.ref W), none, some (.ref c), some (.bl e), some (.str (tx l)), none, none, none, none] ∧ SrcAt H8 a ∧ But (· = a) H H8, ?_, ?_⟩
    · refine ⟨12, rfl, by decide, by decide, fun D hD => ?_⟩
      have nD := src_ne S7 hD
      refine lc_range (lo := 0) (n := 12) (fun i H8 => H8 D = some (.lst ((List.replicate i true).map V.bl)) ∧ SrcAt H8 a ∧ But (· = a) H7 H8)
        ⟨upd_same, SrcAt.grow S7 (But.new hD), But.new hD⟩ (fun i H8 hi h => ?_) (fun H8 h => ?_)
      · obtain ⟨h1, h2, h3⟩ := h
        refine ⟨rfl, _, rfl, _, rfl, a, l, rfl, h2, l0, by omega, lc, fun m H9 lm cm S9 g9 => ⟨tx m, rfl, by rw [tx_len]; omega, by rw [tx_cps]; exact cm, fun H10 g10 => ⟨_, g10 _ _ (g9 _ _ h1 nD) id, szl (by rw [List.length_map, List.length_replicate]; omega), ?_, ?_, ((h3.trans g9).trans (But.up g10)).fresh hD⟩⟩⟩
        · rw [upd_same, rep_snoc]
        · obtain ⟨c, st, n, h⟩ := SrcAt.grow S9 g10
          exact ⟨c, st, n, by rw [upd_ne nD.symm]; exact h⟩
      · obtain ⟨h1, h2, h3⟩ := h
        refine ⟨D, _, rfl, SqL.of h1, _, rfl, ?_⟩
        rw [all_rep]
        exact iteF ⟨rfl, h2, gg7.trans h3⟩
    rintro σ H8 ⟨rfl, S8, g8⟩
    refine ⟨fun σ H9 => ∃ y ∈ othersG, σ = [some (.ref a), some (.str kd), none, some (.ref W), none, some (.ref c), some (.bl e), some (.str (tx l)), some (.str y), none, none, none] ∧ SrcAt H9 a ∧ But (· = a) H H9, ?_, ?_⟩
    · refine ⟨_, rfl, szle (by simp), fun L hL => ?_⟩
      refine ⟨a, L, othersG.map V.str, rfl, SrcAt.grow S8 (But.new hL), SqL.of upd_same, (src_ne S8 hL).symm, by decide, by decide, fun i v c st n hv => ?_⟩
      rw [List.getElem?_map, Option.map_eq_some_iff] at hv
      obtain ⟨y, hy, rfl⟩ := hv
      exact ⟨y, List.mem_of_getElem? hy, rfl, ⟨_, _, _, upd_same⟩, (g8.trans (But.new hL)).trans (But.at rfl)⟩
    rintro σ H9 ⟨y, hy, rfl, S9, g9⟩
    obtain ⟨y1, y2, y3⟩ := others_ok y hy
    obtain ⟨⟨ky, py, ey⟩, hgy⟩ := Option.isSome_iff_exists.mp y1
    have gdy := gd_txt y3 y2
    have ty := goal_text hgy
    have tl2 := goal_text hg
    refine ⟨fun σ H10 => σ = [some (.ref a), some (.str kd), none, some (.ref W), none, some (.ref c), some (.bl e), some (.str (tx l)), some (.str y), none, none, none] ∧ But (fun _ => False) H9 H10, ?_, ?_⟩
    · refine ⟨rfl, _, rfl, .str y, .str y, rfl, .str y, gdy.shaped (by decide), (fun z e => by cases e; exact y2), (fun h => by rw [h y rfl] at hgy; cases hgy), fun z k0 p0 e0 ez h0 g c0 H10 hg10 ga10 g10 => ?_⟩
      cases ez
      rw [hgy] at h0
      cases h0
      refine ⟨rfl, _, rfl, .str (tx l), .str (tx l), rfl, .str _, gdl.shaped (by decide), (fun z e => by cases e; omega), (fun h => by rw [h _ rfl] at hg; cases hg), fun z k0 p0 e0 ez h0 g2 c2 H11 hg11 ga11 g11 => ?_⟩
      cases ez
      rw [hg] at h0
      cases h0
      have ga10' := ga10.grow g11
      obtain ⟨dx, ob⟩ := ga10'.ob
      obtain ⟨dy, oc⟩ := ga11.ob
      refine ⟨g, dx, _, _, rfl, ob, Gy.ty oc, nf_self, g, c0, ky, py, ey, _, rfl, ga10', .inl ⟨g2, c2, k', p', e', rfl, ga11, fun H12 g12 => ?_⟩⟩
      refine ⟨_, rfl, _, rfl, rfl, rfl, _, rfl, ?_⟩
      rw [ty, tl2, decS, decide_eq_true (rfl)]
      exact iteF ⟨rfl, (g10.trans g11).trans g12⟩
    rintro σ H10 ⟨rfl, g10⟩
    have S10 := SrcAt.grow S9 g10
    have gg10 := g9.trans (But.up g10)
    refine ⟨fun σ H11 => ∃ m : List Nat, σ = [some (.ref a), some (.str kd), none, some (.ref W), none, some (.ref c), some (.bl e), some (.str (tx l)), some (.str y), some (.str (tx (kd.cps.toList ++ 32 :: (rootL ++ 91 :: (m ++ [93]))))), none, none] ∧ m.length = 9 ∧ (∀ c ∈ m, letter c = true) ∧ But (· = a) H H11, ?_, ?_⟩
    · refine ⟨_, rfl, _, _, rfl, rfl, szle (by rw [show (Str.ofString " root[").length = 6 by decide +kernel]; omega), ⟨_, rfl⟩, 9, rfl, by decide, by decide, fun D hD => ?_⟩
      have nD := src_ne S10 hD
      refine lc_range (lo := 0) (n := 9) (fun i H1 => ∃ m : List Nat, H1 D = some (.lst ((m.map fun c => tx [c]).map V.str)) ∧ m.length = i ∧ (∀ c ∈ m, letter c = true) ∧ SrcAt H1 a ∧ But (· = a) H10 H1)
        ⟨[], upd_same, rfl, (fun _ h => nomatch h), SrcAt.grow S10 (But.new hD), But.new hD⟩ (fun i H1 hi h => ?_) (fun H1 h => ?_)
      · obtain ⟨m, h1, h2, h3, h4, h5⟩ := h
        refine ⟨rfl, _, rfl, a, "abc", rfl, h4, by decide +kernel, by decide +kernel, fun j ch c st n hj => ?_⟩
        refine ⟨_, by rw [upd_ne nD]; exact h1, szl (by rw [List.length_map, List.length_map]; omega), m ++ [ch], ?_, by rw [List.length_append, h2]; rfl, ?_, ⟨_, _, _, by rw [upd_ne nD.symm]; exact upd_same⟩, (h5.trans (But.at rfl)).fresh hD⟩
        · rw [upd_same, List.map_append, List.map_append]
          rfl
        · intro x hx
          rcases List.mem_append.mp hx with hx | hx
          · exact h3 x hx
          · rw [List.mem_singleton.mp hx]
            exact (by decide +kernel : ∀ c ∈ (Str.ofString "abc").cps.toList, letter c = true) ch (List.mem_of_getElem? hj)
      · obtain ⟨m, h1, h2, h3, h4, h5⟩ := h
        have em : ∀ l : List Nat, ((l.map fun c => tx [c]).map (·.length)).sum = l.length := by
          intro l
          induction l with
          | nil => rfl
          | cons c l ih =>
            rw [List.map_cons, List.map_cons, List.sum_cons, ih, tx_len, List.length_cons, List.length_cons, List.length_nil]
            omega
        refine ⟨_, D, _, rfl, rfl, .inl (SqL.of h1), ?_, _, _, rfl, rfl, ?_, _, _, rfl, rfl, ?_, m, ?_, h2, h3, gg10.trans h5⟩
        · rw [em, show (Str.ofString "").length = 0 by decide +kernel]
          omega
        · rw [join_tx, slen, tx_len m, show (Str.ofString " root[").length = 6 by decide +kernel]
          exact szle (by omega)
        · rw [join_tx, slen, slen, tx_len m, show (Str.ofString " root[").length = 6 by decide +kernel, show (Str.ofString "]").length = 1 by decide +kernel]
          exact szle (by omega)
        · have ez : kd ++ Str.ofString " root[" ++ tx m ++ Str.ofString "]" = tx (kd.cps.toList ++ 32 :: (rootL ++ 91 :: (m ++ [93]))) := by
            apply str_ext
            rw [tx_cps]
            show (kd.cps ++ (Str.ofString " root[").cps ++ (tx m).cps ++ (Str.ofString "]").cps).toList = _
            rw [Array.toList_append, Array.toList_append, Array.toList_append, tx_cps, show (Str.ofString " root[").cps.toList = 32 :: (rootL ++ [91]) by decide +kernel, show (Str.ofString "]").cps.toList = [93] by decide +kernel]
            simp
          rw [join_tx, ez]
          rfl
    rintro σ H11 ⟨m, rfl, lm, cm, g11⟩
    have okS : ∀ z : Str, z.length ≤ 200 → (∀ c ∈ z.cps.toList, gdC c = true) → goalP z = none → okD (.str z) := fun z h1 h2 h3 => ⟨0, 5000, gd_txt h2 h1, by decide, by decide, fun y hy => by cases hy; exact ⟨h1, h3⟩⟩
    have lg : ∀ c, letter c = true → gdC c = true := fun c h => by unfold gdC; rw [h]; rfl
    have ok9 : okD (.str (tx (kd.cps.toList ++ 32 :: (rootL ++ 91 :: (m ++ [93]))))) := by
      have lk2 : kd.cps.toList.length = kd.length := by show _ = kd.cps.size; simp
      refine okS _ ?_ ?_ (wrong_long hkd lm cm)
      · rw [tx_len, List.length_append, List.length_cons, List.length_append, List.length_cons, List.length_append, lk2, lm, show rootL.length = 4 from rfl, List.length_cons, List.length_nil]
        omega
      · rw [tx_cps]
        intro c hc
        rcases List.mem_append.mp hc with h | h
        · exact lg c (kdc c h)
        · rcases List.mem_cons.mp h with h | h
          · rw [h]; decide
          · rcases List.mem_append.mp h with h | h
            · exact (by decide : ∀ c ∈ rootL, gdC c = true) c h
            · rcases List.mem_cons.mp h with h | h
              · rw [h]; decide
              · rcases List.mem_append.mp h with h | h
                · exact lg c (cm c h)
                · rw [List.mem_singleton.mp h]; decide
    have ok8 : okD (.str (kd ++ Str.ofString " root end end")) :=
      have := (by decide +kernel : ∀ k ∈ Str.ofString "shown" :: kindsG, (k ++ Str.ofString " root end end").length ≤ 200 ∧ ∀ c ∈ (k ++ Str.ofString " root end end").cps.toList, gdC c = true) kd mkd
      okS _ this.1 this.2 (wrong_ends kd mkd)
    have okK : ∀ x ∈ reserved, okD (.str (kd ++ Str.ofString " root[" ++ x ++ Str.ofString "]")) := fun x hx =>
      have := (by decide +kernel : ∀ k ∈ Str.ofString "shown" :: kindsG, ∀ x ∈ reserved, (k ++ Str.ofString " root[" ++ x ++ Str.ofString "]").length ≤ 200 ∧ ∀ c ∈ (k ++ Str.ofString " root[" ++ x ++ Str.ofString "]").cps.toList, gdC c = true) kd mkd x hx
      okS _ this.1 this.2 (wrong_kept kd mkd x hx)
    have okL : ∀ d : PyData, leafOk d = true → (∀ z, d ≠ .str z) → okD d := fun d h1 h2 => ⟨0, 45, Gd.leaf h1 (by decide), by decide, by decide, fun z e => absurd e (h2 z)⟩
    have gs : ∀ z : Str, leafOk (.str z) = true → Gd 0 45 (.str z) := fun z h => Gd.leaf h (by decide)
    refine ⟨fun σ H12 => ∃ (L : Addr) (vs : List V) (ds : List PyData), σ = [some (.ref a), some (.str kd), none, some (.ref W), none, some (.ref c), some (.bl e), some (.str (tx l)), some (.str y), some (.str (tx (kd.cps.toList ++ 32 :: (rootL ++ 91 :: (m ++ [93]))))), some (.ref L), none] ∧ H12 L = some (.lst vs) ∧ DpAll K H12 vs ds ∧ vs.length = 10 ∧ (∀ d ∈ ds, okD d) ∧ But (· = a) H H12, ?_, ?_⟩
    · refine ⟨szle (by simp), fun l1 hl1 => ⟨szle (by simp), fun l2 hl2 => ⟨_, rfl, _, _, rfl, rfl, szle (by rw [show (Str.ofString " root end end").length = 13 by decide +kernel]; omega), _, rfl, szle (by simp), fun L hL => ?_⟩⟩⟩
      have q1 : But (fun _ => False) (upd H11 l1 (.lst [.str "shown"])) (upd (upd H11 l1 (.lst [.str "shown"])) l2 (.tup [.str "missing", .str "root"])) := But.new hl2
      refine ⟨L, _, [.none, .bool true, .int 0, .list [.str "shown"], .tuple [.str "missing", .str "root"], .str "", .str " ", .str "root[a]", .str (kd ++ Str.ofString " root end end"), .str (tx (kd.cps.toList ++ 32 :: (rootL ++ 91 :: (m ++ [93]))))], rfl, upd_same, ?_, rfl, ?_, ((g11.trans (But.new hl1)).trans (But.new hl2)).trans (But.new hL)⟩
      · have q2 := But.new (S := fun _ => False) (o := .lst [.non, .bl true, .int 0, .ref l1, .ref l2, .str "", .str " ", .str "root[a]", .str (kd ++ Str.ofString " root end end"), .str (tx (kd.cps.toList ++ 32 :: (rootL ++ 91 :: (m ++ [93]))))]) hL
        refine .cons .non (.cons (.bl _) (.cons (.int _) (.cons (.lst (SqL.of (q2 _ _ (q1 _ _ upd_same id) id)) (.cons (.str _) .nil)) (.cons (.tup (.inl (.inl (q2 _ _ upd_same id))) (.cons (.str _) (.cons (.str _) .nil))) (.cons (.str _) (.cons (.str _) (.cons (.str _) (.cons (.str _) (.cons (.str _) .nil)))))))))
      · intro d hd
        simp only [List.mem_cons, List.not_mem_nil, or_false] at hd
        rcases hd with rfl | rfl | rfl | rfl | rfl | rfl | rfl | rfl | rfl | rfl
        · exact okL _ (by decide +kernel) (fun _ h => nomatch h)
        · exact okL _ (by decide +kernel) (fun _ h => nomatch h)
        · exact okL _ (by decide +kernel) (fun _ h => nomatch h)
        · exact ⟨1, 100, (Gd.list (n := 0) (s := 45) (fun d hd => by rw [List.mem_singleton.mp hd]; exact gs _ (by decide +kernel))).mono (by decide) (by decide), by decide, by decide, fun _ h => nomatch h⟩
        · exact ⟨1, 200, (Gd.tuple (n := 0) (s := 45) (fun d hd => by
            rcases List.mem_cons.mp hd with h | h
            · rw [h]; exact gs _ (by decide +kernel)
            · rw [List.mem_singleton.mp h]; exact gs _ (by decide +kernel))).mono (by decide) (by decide), by decide, by decide, fun _ h => nomatch h⟩
        · exact okS _ (by decide +kernel) (by decide +kernel) wrong_odd.1
        · exact okS _ (by decide +kernel) (by decide +kernel) wrong_odd.2.1
        · exact okS _ (by decide +kernel) (by decide +kernel) wrong_odd.2.2
        · exact ok8
        · exact ok9
    rintro σ H12 ⟨L, vs, ds, rfl, hL, hds, lv, okd, g12⟩
    refine ⟨fun σ H13 => ∃ (L : Addr) (vs : List V) (ds : List PyData), σ = [some (.ref a), some (.str kd), none, some (.ref W), none, some (.ref c), some (.bl e), some (.str (tx l)), some (.str y), some (.str (tx (kd.cps.toList ++ 32 :: (rootL ++ 91 :: (m ++ [93]))))), some (.ref L), none] ∧ H13 L = some (.lst vs) ∧ DpAll K H13 vs ds ∧ vs.length ≤ 100 ∧ (∀ d ∈ ds, okD d) ∧ But (· = a) H H13, ?_, ?_⟩
    · refine ⟨_, rfl, rfl, fun r H13 hr13 hl13 g13 => ⟨r, rfl, ⟨_, SqL.of hl13⟩, fun D hD => ?_⟩⟩
      refine lc_list (K := K) (a := r) (xs := reserved.map V.str) (fun i H14 => H14 D = some (.lst (((reserved.take i).map fun x => kd ++ Str.ofString " root[" ++ x ++ Str.ofString "]").map V.str)) ∧ But (fun _ => False) H13 H14) ⟨upd_same, But.new hD⟩ (fun i H14 _ h => SqL.of (h.2 _ _ hl13 id)) (fun i x H14 hx h => ?_) (fun H14 h => ?_)
      · obtain ⟨h1, h2⟩ := h
        rw [List.getElem?_map, Option.map_eq_some_iff] at hx
        obtain ⟨x, ex, rfl⟩ := hx
        have lx : x.length ≤ 10 := (by decide +kernel : ∀ x ∈ reserved, x.length ≤ 10) x (List.mem_of_getElem? ex)
        refine ⟨rfl, _, rfl, _, _, rfl, rfl, szle (by rw [show (Str.ofString " root[").length = 6 by decide +kernel]; omega), _, rfl, _, _, rfl, rfl, szle ?_, _, _, rfl, rfl, szle ?_, _, h1, szl ?_, ?_, h2.fresh hD⟩
        · rw [slen, show (Str.ofString " root[").length = 6 by decide +kernel]; omega
        · rw [slen, slen, show (Str.ofString " root[").length = 6 by decide +kernel, show (Str.ofString "]").length = 1 by decide +kernel]; omega
        · rw [List.length_map, List.length_map, List.length_take, show reserved.length = 19 by decide]; omega
        · rw [upd_same, List.take_add_one, ex, List.map_append, List.map_append]
          rfl
      · obtain ⟨h1, h2⟩ := h
        rw [List.length_map, List.take_length] at h1
        have g14 := g13.trans h2
        refine ⟨L, D, _, _, rfl, rfl, g14 _ _ hL id, h1, ?_, fun L2 hL2 => ?_⟩
        · rw [List.length_map, List.length_map, show reserved.length = 19 by decide]
          exact szle (by omega)
        have g15 := g14.trans (But.new (S := fun _ => False) (o := .lst (vs ++ (reserved.map fun x => kd ++ Str.ofString " root[" ++ x ++ Str.ofString "]").map V.str)) hL2)
        refine ⟨L2, _, ds ++ dS (reserved.map fun x => kd ++ Str.ofString " root[" ++ x ++ Str.ofString "]"), rfl, upd_same, dpApp (DpAll.part (fun b o h => g15 b o h id) ds vs hds) (dpS _), ?_, ?_, g12.trans (But.up g15)⟩
        · rw [List.length_append, List.length_map, List.length_map, show reserved.length = 19 by decide]
          omega
        · intro d hd
          rcases List.mem_append.mp hd with hd | hd
          · exact okd d hd
          · unfold dS at hd
            obtain ⟨z, hz, rfl⟩ := List.mem_map.mp hd
            obtain ⟨x, hx, rfl⟩ := List.mem_map.mp hz
            exact okK x hx
    rintro σ H13 ⟨L, vs, ds, rfl, hL, hds, lv, okd, g13⟩
    refine ⟨_, rfl, L, rfl, ⟨_, SqL.of hL⟩, fun D hD => ?_⟩
    refine lc_list (K := K) (a := L) (xs := vs) (fun i H14 => H14 D = some (.lst ((List.replicate i true).map V.bl)) ∧ But (fun _ => False) H13 H14) ⟨upd_same, But.new hD⟩ (fun i H14 _ h => SqL.of (h.2 _ _ hL id)) (fun i x H14 hx h => ?_) (fun H14 h => ?_)
    · obtain ⟨h1, h2⟩ := h
      obtain ⟨d, hd1, hd2⟩ := DpAll.at hds hx
      obtain ⟨n, s, gd, hn, hs, hz⟩ := okd d (List.mem_of_getElem? hd1)
      have hi : i < vs.length := by
        rcases Nat.lt_or_ge i vs.length with h | h
        · exact h
        · rw [List.getElem?_eq_none h] at hx; cases hx
      refine ⟨rfl, _, rfl, x, d, n, s, rfl, Dp.part (fun b o h => h2 b o h id) d x hd2, gd, hn, hs, hz, fun H15 g15 => ⟨_, g15 _ _ h1 id, szl (by rw [List.length_map, List.length_replicate]; omega), ?_, (h2.trans g15).fresh hD⟩⟩
      rw [upd_same, rep_snoc]
    · obtain ⟨h1, h2⟩ := h
      refine ⟨D, _, rfl, SqL.of h1, _, rfl, ?_⟩
      rw [all_rep]
      refine iteT ⟨rfl, _, rfl, .str (tx l), .str (tx l), rfl, .str _, gdl.shaped (by decide), (fun z e => by cases e; omega), (fun h => by rw [h _ rfl] at hg; cases hg), fun z k0 p0 e0 ez h0 g c0 H15 hg15 ga15 g15 => ?_⟩
      cases ez
      rw [hg] at h0
      cases h0
      obtain ⟨dx, ob⟩ := ga15.ob
      refine ⟨_, rfl, g, dx, _, _, rfl, ob, ty_d (.str (tx l)), nS.nf, g, c0, k', p', e', _, rfl, ga15, .inr ⟨"str", ty_d (.str (tx l)), nS, false, rfl, _, rfl, iteT ?_⟩⟩
      refine ⟨rfl, _, rfl, .str (tx l), .str (tx l), rfl, .str _, gdl.shaped (by decide), (fun z e => by cases e; omega), (fun h => by rw [h _ rfl] at hg; cases hg), fun z k0 p0 e0 ez h0 g2 c2 H16 hg16 ga16 g16 => ?_⟩
      cases ez
      rw [hg] at h0
      cases h0
      obtain ⟨dy, oc⟩ := ga16.ob
      refine ⟨g2, dy, _, _, rfl, oc, ty_d .non, nN.nf, g2, c2, k', p', e', _, rfl, ga16, .inr ⟨"NoneType", ty_d .non, nN, _, rfl, ?_⟩⟩
      exact k H16 (g13.trans (But.up ((h2.trans g15).trans g16)))
end
end K71

set_option Elab.async false
set_option linter.all false
set_option maxRecDepth 100000
set_option maxHeartbeats 4000000
set_option pp.maxSteps 1500
namespace K71
open PySem L2 L2.G42
open Evl (pss_cut)
open _root_.ClX (CRead CVal pe_cval)
abbrev sLaw : Stmt := top 23
abbrev NLaw : List Str := ["_law_script", "_law_due", "_law_at"]
theorem scLaw : FnScope NLaw ["_law_script"] (defScope sLaw) := ⟨rfl, rfl, rfl, by decide +kernel, rfl, by decide +kernel, by decide +kernel⟩
def spLaw (K : PySem.W.Frag) : Sp := fun vs H Q _ => ∃ (a : Addr) (ns : List Int), vs = [.ref a] ∧ SqL K H a (ns.map V.int) ∧ ns.length ≤ 63 ∧ ∀ H', Q (.bl true) H'
section
variable {P : Program} {w : World} {K : PySem.W.Frag} {mg : Str → Option Value} {base : Heap} {G : Addr} {mc : Value}
theorem ok_law {f : Addr} {fd : FuncData} (F : Fun K "law" "law" sLaw f fd) (T : Bn mg) (Gk : GlK K G mc) (gl : mg "Goal" = some (.ref G)) (cPot : Cl P w K mg base 1 "_law_pot" (spSource K) []) (cRight : ClG P w K mg base 8 "_law_right" spRight []) : FnG P w K mg base CX0 9 f fd ["_law_script"] (spLaw K) := by
  refine Fun.okG F scLaw (fun vs H Q E h => ?_) (fun cdv A outer s H vs Q E hr gu h => ?_)
  · obtain ⟨a, ns, rfl, _⟩ := h
    rfl
  · obtain ⟨a, ns, rfl, ha, few, k⟩ := h
    have hu := hr.units
    obtain ⟨ka, ck, hk⟩ := Gk.kinds
    obtain ⟨sa, cs, hs⟩ := Gk.states
    refine ⟨_, (pss_cons (ps_set (i := 1) scLaw.nd rfl (.inl rfl) (pe_tup (pa_cons pe_str (pa_cons pe_str (pa_cons pe_str (pa_cons pe_str (pa_cons pe_str (pa_cons pe_str (pa_cons pe_str (pa_cons pe_str pa_nil))))))))))
      (pss_cut (ps_if (PW.pt (pw_or (pt_cmpR (op_neD hu) (pe_cval (pe_glob (v := .ref G) rfl gl rfl)) (pv 1) (nomark _)) (pw_or1 (pt_cmpR (op_neD hu) (pe_cval (pe_glob (v := .ref G) rfl gl rfl)) (pe_slice sl_tup (pv 1) po_none (po_some pe_int)) (nomark _))))) (pss_one (ps_ret pe_bl)) pss_nil)
      (pss_one (ps_ret (pe_callB (cr_all rfl) (by rfl) T.all boot_all (pa_cons (pe_lc (own := [("_law_at", 2)]) (g := gName 2) (tt := tYes) rfl scLaw.nd (pi_range1 (by rfl) T.range (pa_cons (pe_callB (call_max2 rfl) (by rfl) T.max boot_max (pa_cons pe_int (pa_cons (pe_callB (call_min2 rfl) (by rfl) T.min boot_min (pa_cons pe_int (pa_cons (pe_callB call_len_seq (by rfl) T.len PySem.boot_len (pa_cons (pv 0) pa_nil)) pa_nil))) pa_nil))) pa_nil)) (blkOk_by (own := [("_law_at", 2)]) (N := NLaw) (sc := defScope sLaw) (by decide +kernel)) (fun _ _ _ _ _ => (pg_name (i := 2) scLaw.nd rfl (.inl rfl))) (fun _ _ _ _ _ => pts_nil) (fun _ _ _ _ _ => (pe_cg cRight hr (by decide) gu rfl (pa_cons (pe_c cPot hr (by decide) rfl (pa_cons (pv 0) (pa_cons (pv 2) pa_nil))) pa_nil)))) pa_nil)))))), ?_⟩
    refine ⟨szle (by simp), fun t ht => ?_⟩
    have hT : (upd H t (.tup (kindsG.map V.str))) t = some (.tup (kindsG.map V.str)) := upd_same
    have g1 : But (fun _ => False) H (upd H t (.tup (kindsG.map V.str))) := But.new ht
    have soK : SoAll kindsG := by unfold SoAll; decide +kernel
    have soS : SoAll statesG := by unfold SoAll; decide +kernel
    refine ⟨fun σ H2 => σ = [some (.ref a), some (.ref t), none] ∧ But (fun _ => False) H H2, ?_, ?_⟩
    · refine ⟨G, mc, _, _, rfl, Gk.rd, ck, _, rfl, .tuple (dS kindsG), .tuple (dS kindsG), dpT (hk _), dpT (SqT.of hT), shapedT soK, shapedT soK, _, rfl, ?_⟩
      rw [eqv_tup, decide_eq_true rfl]
      refine iteF ⟨G, mc, _, _, rfl, Gk.rd, cs, _, rfl, _, rfl, t, kindsG.map V.str, rfl, SqT.of hT, (by decide +kernel), fun p hp => ?_⟩
      have e5 : cutV (kindsG.map V.str) none (some 5) = statesG.map V.str := by decide +kernel
      rw [e5]
      refine ⟨.tuple (dS statesG), .tuple (dS statesG), dpT (hs _), dpT (SqT.of upd_same), shapedT soS, shapedT soS, _, rfl, ?_⟩
      rw [eqv_tup, decide_eq_true rfl]
      exact iteF ⟨rfl, g1.trans (But.new hp)⟩
    rintro σ H2 ⟨rfl, g2⟩
    refine ⟨_, rfl, a, _, rfl, .inl (SqL.grow ha g2), _, _, rfl, _, _, rfl, _, rfl, ?_, ?_, fun D hD => ?_⟩
    · split <;> split <;> omega
    · split <;> split <;> simp at * <;> omega
    refine lc_range (lo := 0) (fun i H3 => H3 D = some (.lst ((List.replicate i true).map V.bl)) ∧ But (fun _ => False) H2 H3) ⟨upd_same, But.new hD⟩ (fun i H3 hi h => ?_) (fun H3 h => ?_)
    · obtain ⟨h1, h2⟩ := h
      refine ⟨rfl, _, rfl, _, rfl, a, ns, _, rfl, by omega, SqL.grow (SqL.grow ha g2) h2, fun S H4 hS src4 g4 => ⟨S, rfl, src4, fun H5 g5 => ?_⟩⟩
      have nD : D ≠ S := fun e => by rw [e] at h1; rw [h1] at hS; cases hS
      have g45 : But (fun _ => False) H3 H5 := fun b o hb _ => g5 _ _ (g4 _ _ hb id) fun e => by rw [e, hS] at hb; cases hb
      refine ⟨_, g45 _ _ h1 id, szl ?_, ?_, (h2.trans g45).fresh hD⟩
      · rw [List.length_map, List.length_replicate]
        have : i < 100 := by
          revert hi
          split <;> split <;> simp at * <;> omega
        omega
      · rw [upd_same, rep_snoc]
    · obtain ⟨h1, h2⟩ := h
      refine ⟨D, _, rfl, SqL.of h1, ?_⟩
      rw [all_rep]
      exact k H3
end
end K71

set_option Elab.async false
set_option linter.all false
set_option maxRecDepth 100000
set_option maxHeartbeats 4000000
namespace L2.G42
open PySem PySem.Spec
/-! what is new in H', beside G in H -/
def ext (G H H' : Hp) : Hp := fun b => match H b with
  | some _ => G b
  | none => H' b
theorem ext_old {G H H' : Hp} {b : Addr} (h : H b ≠ none) : ext G H H' b = G b := by
  unfold ext
  cases e : H b with
  | none => exact absurd e h
  | some o => rfl
theorem ext_new {G H H' : Hp} {b : Addr} (h : H b = none) : ext G H H' b = H' b := by
  unfold ext
  rw [h]
theorem ext_part {G H H' : Hp} (p : Part G H) (g : But (fun _ => False) H H') : Part (ext G H H') H' := fun b o e => by
  by_cases h : H b = none
  · rw [ext_new h] at e; exact e
  · rw [ext_old h] at e; exact g b o (p b o e) id
theorem ext_left {G H H' : Hp} (p : Part G H) : Part G (ext G H H') := fun b o e => by
  rw [ext_old (by rw [p b o e]; simp)]; exact e
theorem ext_grow {G H H1 H2 : Hp} (g : But (fun _ => False) H1 H2) : Part (ext G H H1) (ext G H H2) := fun b o e => by
  by_cases h : H b = none
  · rw [ext_new h] at e ⊢; exact g b o e id
  · rw [ext_old h] at e ⊢; exact e
theorem ext_ext {G H H1 H2 : Hp} (g : But (fun _ => False) H H1) (g2 : But (fun _ => False) H1 H2) : Part (ext (ext G H H1) H1 H2) (ext G H H2) := fun b o e => by
  by_cases h1 : H1 b = none
  · rw [ext_new h1] at e
    rw [ext_new (g.free h1)]
    exact e
  · rw [ext_old h1] at e
    exact ext_grow g2 b o e
theorem ext_self {G H : Hp} (p : Part G H) : Part G (ext G H H) := ext_left p
namespace Tr
/-! all entries in the opposite order -/
def opp : (n : Nat) → Tr n → Tr n
  | _, .inl k => .inl k
  | 0, .inr x => nomatch x
  | n + 1, .inr (m, es) => tab m (es.reverse.map fun e => (e.1, opp n e.2))
section
variable {n : Nat} {m k : Str} {es : List (Str × Tr n)} {p : List Str}
theorem opp_bag : opp n (bag k) = bag k := by cases n <;> rfl
theorem opp_tab : opp (n + 1) (tab m es) = tab m (es.reverse.map fun e => (e.1, opp n e.2)) := rfl
end
theorem diff_snd {α β : Type} {g : Str × α → β} {es : List (Str × α)} (h : DiffBy (·.1) es) : DiffBy (·.1) (es.map fun e => (e.1, g e)) := List.pairwise_map.mpr (List.Pairwise.imp (fun {a b} h e => h e) h)
theorem ok_opp : ∀ (n : Nat) (t : Tr n), Ok n t → Ok n (opp n t) := by
  refine ind (fun n k h => by rw [opp_bag]; exact h) (fun n m es ih ho => ?_)
  obtain ⟨hm, ne, hd, hes⟩ := ho
  rw [opp_tab]
  refine ⟨hm, by simpa using ne, diff_snd (hd.perm (List.reverse_perm es)), fun e he => ?_⟩
  obtain ⟨x, hx, rfl⟩ := List.mem_map.mp he
  have hx' := List.mem_reverse.mp hx
  exact ⟨(hes x hx').1, ih x hx' (hes x hx').2⟩
theorem few_opp : ∀ (n : Nat) (t : Tr n), Few n t → Few n (opp n t) := by
  refine ind (fun n k h => by rw [opp_bag]; exact h) (fun n m es ih ho => ?_)
  obtain ⟨h1, h2⟩ := ho
  rw [opp_tab]
  refine ⟨by simpa using h1, fun e he => ?_⟩
  obtain ⟨x, hx, rfl⟩ := List.mem_map.mp he
  have hx' := List.mem_reverse.mp hx
  exact ih x hx' (h2 x hx')
theorem sum_rev {α : Type} (f : α → Nat) (l : List α) : (l.reverse.map f).sum = (l.map f).sum := ((List.reverse_perm l).map f).sum_nat
theorem nt_opp : ∀ (n : Nat) (t : Tr n), nt n (opp n t) = nt n t := by
  refine ind (fun n k => by rw [opp_bag]) (fun n m es ih => ?_)
  rw [opp_tab, nt_tab, nt_tab, List.map_map]
  have e : es.reverse.map ((fun e => nt n e.2) ∘ fun e => (e.1, opp n e.2)) = es.reverse.map fun e => nt n e.2 := List.map_congr_left fun e he => ih e (List.mem_reverse.mp he)
  rw [e, sum_rev]
theorem nb_opp : ∀ (n : Nat) (t : Tr n), nb n (opp n t) = nb n t := by
  refine ind (fun n k => by rw [opp_bag]) (fun n m es ih => ?_)
  rw [opp_tab, nb_tab, nb_tab, List.map_map]
  have e : es.reverse.map ((fun e => nb n e.2) ∘ fun e => (e.1, opp n e.2)) = es.reverse.map fun e => nb n e.2 := List.map_congr_left fun e he => ih e (List.mem_reverse.mp he)
  rw [e, sum_rev]
theorem right_opp {n : Nat} {t : Tr n} (h : t.isRight = true) : (opp n t).isRight = true := by
  cases n with
  | zero => obtain ⟨k, rfl⟩ := tr_zero t; cases h
  | succ n =>
    rcases tr_cases t with ⟨k, rfl⟩ | ⟨m, es, rfl⟩
    · cases h
    · rfl
theorem srt_opp : ∀ (n : Nat) (t : Tr n), Ok n t → srt n (opp n t) = srt n t := by
  refine ind (fun n k h => by rw [opp_bag]) (fun n m es ih ho => ?_)
  obtain ⟨hm, ne, hd, hes⟩ := ho
  rw [opp_tab, srt_tab, srt_tab, List.map_map]
  have e : es.reverse.map ((fun e => (e.1, srt n e.2)) ∘ fun e => (e.1, opp n e.2)) = es.reverse.map fun e => (e.1, srt n e.2) := List.map_congr_left fun e he => by
    show (e.1, srt n (opp n e.2)) = _
    rw [ih e (List.mem_reverse.mp he) (hes e (List.mem_reverse.mp he)).2]
  rw [e]
  congr 1
  have hp : (es.reverse.map fun e => (e.1, srt n e.2)).Perm (es.map fun e => (e.1, srt n e.2)) := (List.reverse_perm es).map _
  have d1 : DiffBy (·.1) (es.map fun e => (e.1, srt n e.2)) := diff_snd hd
  exact srtBy_uniq tot_ltS ((srtBy_perm _).trans hp) (srtBy_up tot_ltS (d1.perm hp))
/-! another mark at a place -/
def chg : (n : Nat) → Tr n → List Str → Str → Tr n
  | _, .inl k, [], mk => .inl mk
  | _, .inl k, _ :: _, _ => .inl k
  | 0, .inr x, _, _ => nomatch x
  | n + 1, .inr (m, es), [], mk => tab mk es
  | n + 1, .inr (m, es), x :: p, mk => tab m (es.map fun e => (e.1, if e.1 = x then chg n e.2 p mk else e.2))
/-- there is such a place -/
def At : (n : Nat) → Tr n → List Str → Prop
  | _, _, [] => True
  | _, .inl _, _ :: _ => False
  | 0, .inr x, _ :: _ => nomatch x
  | n + 1, .inr (_, es), x :: p => ∃ e ∈ es, e.1 = x ∧ At n e.2 p
/-- what may stand there instead -/
def Fit : (n : Nat) → Tr n → List Str → Str → Prop
  | _, .inl _, [], mk => mk ∈ kinds
  | _, .inl _, _ :: _, _ => True
  | 0, .inr x, _, _ => nomatch x
  | n + 1, .inr _, [], mk => mk ∈ modes
  | n + 1, .inr (_, es), x :: p, mk => ∀ e ∈ es, e.1 = x → Fit n e.2 p mk
section
variable {n : Nat} {m k mk x : Str} {es : List (Str × Tr n)} {p : List Str}
theorem chg_bag0 : chg n (bag k) [] mk = bag mk := by cases n <;> rfl
theorem chg_bag1 : chg n (bag k) (x :: p) mk = bag k := by cases n <;> rfl
theorem chg_tab0 : chg (n + 1) (tab m es) [] mk = tab mk es := rfl
theorem chg_tab1 : chg (n + 1) (tab m es) (x :: p) mk = tab m (es.map fun e => (e.1, if e.1 = x then chg n e.2 p mk else e.2)) := rfl
theorem at_nil {t : Tr n} : At n t [] = True := by cases n <;> cases t <;> rfl
theorem at_bag : At n (bag k) (x :: p) = False := by cases n <;> rfl
theorem at_tab : At (n + 1) (tab m es) (x :: p) = ∃ e ∈ es, e.1 = x ∧ At n e.2 p := rfl
theorem fit_bag0 : Fit n (bag k) [] mk = (mk ∈ kinds) := by cases n <;> rfl
theorem fit_tab0 : Fit (n + 1) (tab m es) [] mk = (mk ∈ modes) := rfl
theorem fit_tab1 : Fit (n + 1) (tab m es) (x :: p) mk = ∀ e ∈ es, e.1 = x → Fit n e.2 p mk := rfl
end
theorem ok_chg : ∀ (n : Nat) (t : Tr n) (p : List Str) (mk : Str), Ok n t → Fit n t p mk → Ok n (chg n t p mk) := by
  refine ind (fun n k p mk h f => ?_) (fun n m es ih p mk ho f => ?_)
  · cases p with
    | nil => rw [chg_bag0]; rw [fit_bag0] at f; rw [ok_bag]; exact f
    | cons x p => rw [chg_bag1]; exact h
  · obtain ⟨hm, ne, hd, hes⟩ := ho
    cases p with
    | nil => rw [chg_tab0]; exact ⟨f, ne, hd, hes⟩
    | cons x p =>
      rw [chg_tab1]
      refine ⟨hm, by simpa using ne, diff_snd hd, fun e he => ?_⟩
      obtain ⟨y, hy, rfl⟩ := List.mem_map.mp he
      refine ⟨(hes y hy).1, ?_⟩
      show Ok n (if y.1 = x then chg n y.2 p mk else y.2)
      by_cases e : y.1 = x
      · rw [if_pos e]; exact ih y hy p mk (hes y hy).2 (f y hy e)
      · rw [if_neg e]; exact (hes y hy).2
theorem few_chg : ∀ (n : Nat) (t : Tr n) (p : List Str) (mk : Str), Few n t → Few n (chg n t p mk) := by
  refine ind (fun n k p mk h => ?_) (fun n m es ih p mk ho => ?_)
  · cases p with
    | nil => rw [chg_bag0, few_bag]; trivial
    | cons x p => rw [chg_bag1]; exact h
  · obtain ⟨h1, h2⟩ := ho
    cases p with
    | nil => rw [chg_tab0]; exact ⟨h1, h2⟩
    | cons x p =>
      rw [chg_tab1]
      refine ⟨by simpa using h1, fun e he => ?_⟩
      obtain ⟨y, hy, rfl⟩ := List.mem_map.mp he
      show Few n (if y.1 = x then chg n y.2 p mk else y.2)
      by_cases e : y.1 = x
      · rw [if_pos e]; exact ih y hy p mk (h2 y hy)
      · rw [if_neg e]; exact h2 y hy
theorem nt_chg : ∀ (n : Nat) (t : Tr n) (p : List Str) (mk : Str), nt n (chg n t p mk) = nt n t := by
  refine ind (fun n k p mk => ?_) (fun n m es ih p mk => ?_)
  · cases p with
    | nil => rw [chg_bag0, nt_bag, nt_bag]
    | cons x p => rw [chg_bag1]
  · cases p with
    | nil => rw [chg_tab0, nt_tab, nt_tab]
    | cons x p =>
      rw [chg_tab1, nt_tab, nt_tab, List.map_map]
      congr 2
      refine List.map_congr_left fun y hy => ?_
      show nt n (if y.1 = x then chg n y.2 p mk else y.2) = _
      by_cases e : y.1 = x
      · rw [if_pos e]; exact ih y hy p mk
      · rw [if_neg e]
theorem nb_chg : ∀ (n : Nat) (t : Tr n) (p : List Str) (mk : Str), nb n (chg n t p mk) = nb n t := by
  refine ind (fun n k p mk => ?_) (fun n m es ih p mk => ?_)
  · cases p with
    | nil => rw [chg_bag0, nb_bag, nb_bag]
    | cons x p => rw [chg_bag1]
  · cases p with
    | nil => rw [chg_tab0, nb_tab, nb_tab]
    | cons x p =>
      rw [chg_tab1, nb_tab, nb_tab, List.map_map]
      congr 1
      refine List.map_congr_left fun y hy => ?_
      show nb n (if y.1 = x then chg n y.2 p mk else y.2) = _
      by_cases e : y.1 = x
      · rw [if_pos e]; exact ih y hy p mk
      · rw [if_neg e]
theorem form_chg : ∀ (n : Nat) (t : Tr n) (p : List Str) (mk : Str), form n (chg n t p mk) = form n t := by
  refine ind (fun n k p mk => ?_) (fun n m es ih p mk => ?_)
  · cases p with
    | nil => rw [chg_bag0, form_bag, form_bag]
    | cons x p => rw [chg_bag1]
  · cases p with
    | nil => rw [chg_tab0, form_tab, form_tab]
    | cons x p =>
      rw [chg_tab1, form_tab, form_tab, List.map_map]
      congr 3
      refine List.map_congr_left fun y hy => ?_
      show y.1 ++ Str.ofString ":" ++ form n (if y.1 = x then chg n y.2 p mk else y.2) = _
      by_cases e : y.1 = x
      · rw [if_pos e, ih y hy p mk]
      · rw [if_neg e]
theorem right_chg {n : Nat} {t : Tr n} (h : t.isRight = true) (p : List Str) (mk : Str) : (chg n t p mk).isRight = true := by
  cases n with
  | zero => obtain ⟨k, rfl⟩ := tr_zero t; cases h
  | succ n =>
    rcases tr_cases t with ⟨k, rfl⟩ | ⟨m, es, rfl⟩
    · cases h
    · cases p <;> rfl
theorem srt_chg : ∀ (n : Nat) (t : Tr n) (p : List Str) (mk : Str), Ok n t → srt n (chg n t p mk) = chg n (srt n t) p mk := by
  refine ind (fun n k p mk h => ?_) (fun n m es ih p mk ho => ?_)
  · cases p with
    | nil => rw [chg_bag0, srt_bag, srt_bag, chg_bag0]
    | cons x p => rw [chg_bag1, srt_bag, chg_bag1]
  · obtain ⟨hm, ne, hd, hes⟩ := ho
    cases p with
    | nil => rw [chg_tab0, srt_tab, srt_tab, chg_tab0]
    | cons x p =>
      rw [chg_tab1, srt_tab, srt_tab, chg_tab1, List.map_map]
      congr 1
      have e : es.map ((fun e => (e.1, srt n e.2)) ∘ fun e => (e.1, if e.1 = x then chg n e.2 p mk else e.2)) = (es.map fun e => (e.1, srt n e.2)).map fun e => (e.1, if e.1 = x then chg n e.2 p mk else e.2) := by
        rw [List.map_map]
        refine List.map_congr_left fun y hy => ?_
        show (y.1, srt n (if y.1 = x then chg n y.2 p mk else y.2)) = (y.1, if y.1 = x then chg n (srt n y.2) p mk else srt n y.2)
        by_cases e : y.1 = x
        · rw [if_pos e, if_pos e, ih y hy p mk (hes y hy).2]
        · rw [if_neg e, if_neg e]
      rw [e]
      have d1 : DiffBy (·.1) (es.map fun e => (e.1, srt n e.2)) := diff_snd hd
      exact srtBy_map tot_ltS (k := (·.1)) (k2 := (·.1)) (f := fun e : Str × Tr n => (e.1, if e.1 = x then chg n e.2 p mk else e.2)) (fun _ => rfl) d1
/-- the marks with another one at p -/
def remark (p : List Str) (mk : Str) (ms : List (List Str × Str)) : List (List Str × Str) := ms.map fun q => if q.1 = p then (q.1, mk) else q
theorem remark_none {p : List Str} {mk : Str} {ms : List (List Str × Str)} (h : ∀ q ∈ ms, q.1 ≠ p) : remark p mk ms = ms := by
  unfold remark
  have : ms.map (fun q => if q.1 = p then (q.1, mk) else q) = ms.map id := List.map_congr_left fun q hq => by rw [if_neg (h q hq)]; rfl
  rw [this, List.map_id]
theorem remark_fst (p : List Str) (mk : Str) (ms : List (List Str × Str)) : (remark p mk ms).map (·.1) = ms.map (·.1) := by
  unfold remark
  rw [List.map_map]
  refine List.map_congr_left fun q hq => ?_
  show (if q.1 = p then (q.1, mk) else q).1 = q.1
  split <;> rfl
theorem remark_flat {α : Type} (p : List Str) (mk : Str) (f : α → List (List Str × Str)) : ∀ l : List α, remark p mk (l.flatMap f) = l.flatMap fun x => remark p mk (f x)
  | [] => rfl
  | x :: l => by
    rw [List.flatMap_cons, List.flatMap_cons, ← remark_flat p mk f l]
    exact List.map_append
theorem marks_chg : ∀ (n : Nat) (t : Tr n) (q p : List Str) (mk : Str), marks n q (chg n t p mk) = remark (q ++ p) mk (marks n q t) := by
  refine ind (fun n k q p mk => ?_) (fun n m es ih q p mk => ?_)
  · cases p with
    | nil =>
      rw [chg_bag0, marks_bag, marks_bag, List.append_nil]
      show _ = [if q = q then (q, mk) else (q, k)]
      rw [if_pos rfl]
    | cons x p =>
      rw [chg_bag1, marks_bag]
      refine (remark_none fun y hy => ?_).symm
      rw [List.mem_singleton.mp hy]
      intro e
      have := congrArg List.length e
      simp at this
  · cases p with
    | nil =>
      rw [chg_tab0, marks_tab, marks_tab, List.append_nil]
      show _ = (if q = q then (q, mk) else (q, m)) :: remark q mk _
      rw [if_pos rfl, remark_none]
      intro y hy
      obtain ⟨e, he, hy⟩ := List.mem_flatMap.mp hy
      obtain ⟨r, er⟩ := marks_pre n e.2 _ y hy
      intro h
      rw [er] at h
      have := congrArg List.length h
      simp at this
    | cons x p =>
      rw [chg_tab1, marks_tab, marks_tab]
      show _ = (if q = q ++ x :: p then (q, mk) else (q, m)) :: remark (q ++ x :: p) mk _
      rw [if_neg (fun e => by have := congrArg List.length e; simp at this), remark_flat, List.flatMap_map]
      congr 1
      refine flatMap_same fun y hy => ?_
      show marks n (q ++ [y.1]) (if y.1 = x then chg n y.2 p mk else y.2) = _
      by_cases e : y.1 = x
      · rw [if_pos e, ih y hy (q ++ [y.1]) p mk, ← e, List.append_assoc]
        rfl
      · rw [if_neg e, remark_none]
        intro z hz
        obtain ⟨r, er⟩ := marks_pre n y.2 _ z hz
        rw [er]
        have := ne_keys (p := q) e r p
        rw [List.append_assoc q [x] p] at this
        exact this
end Tr
theorem eqMs_same {ms : List (List Str × Str)} (h : DiffBy (·.1) ms) : eqMs ms ms = true := by
  unfold eqMs
  rw [beq_self_eq_true, Bool.true_and, List.all_eq_true]
  intro q hq
  exact decide_eq_true (val_mem h hq)
theorem eqMs_other {ms ns : List (List Str × Str)} {q : List Str × Str} (hq : q ∈ ms) (h : valV (kmk ns) (kp q.1) ≠ some (V.str q.2)) : eqMs ms ns = false := by
  unfold eqMs
  rw [Bool.and_eq_false_iff]
  right
  rw [List.all_eq_false]
  exact ⟨q, hq, by rw [decide_eq_false h]; exact Bool.false_ne_true⟩
theorem eqMs_remark {ms : List (List Str × Str)} {p : List Str} {k mk : Str} (hd : DiffBy (·.1) ms) (h : (p, k) ∈ ms) (ne : k ≠ mk) : eqMs ms (Tr.remark p mk ms) = false := by
  refine eqMs_other h fun e => ne ?_
  have d2 : DiffBy (·.1) (Tr.remark p mk ms) := DiffBy.of (by rw [Tr.remark_fst]; exact hd.nd)
  have m2 : (p, mk) ∈ Tr.remark p mk ms := List.mem_map.mpr ⟨(p, k), h, by show (if p = p then (p, mk) else (p, k)) = _; rw [if_pos rfl]⟩
  rw [show kp (p, k).1 = kp p from rfl, val_mem d2 m2] at e
  injection e with e
  injection e with e
  exact e.symm
end L2.G42

set_option Elab.async false
set_option linter.all false
set_option maxRecDepth 100000
set_option maxHeartbeats 4000000
namespace L2.G42
open PySem PySem.Spec
theorem nu {H : Hp} {p b : Addr} {o u : HO} (h : H p = none) (e : H b = some u) : upd H p o b = some u := by rw [upd_ne (ne_of_none e h)]; exact e
theorem ext_mono {G H HB H1 H2 : Hp} (p : Part G H) (d : ∀ b, HB b = none → H b = none) (g : ∀ b o, HB b = none → H1 b = some o → H2 b = some o) : Part (ext G HB H1) (ext G H H2) := fun b o e => by
  by_cases h : HB b = none
  · rw [ext_new h] at e
    rw [ext_new (d b h)]
    exact g b o h e
  · rw [ext_old h] at e
    rw [ext_old (by rw [p b o e]; simp)]
    exact e
theorem ext_ext' {G H H1 H2 : Hp} (d : ∀ b, H1 b = none → H b = none) (g : ∀ b o, H b = none → H1 b = some o → H2 b = some o) : Part (ext (ext G H H1) H1 H2) (ext G H H2) := fun b o e => by
  by_cases h1 : H1 b = none
  · rw [ext_new h1] at e
    rw [ext_new (d b h1)]
    exact e
  · rw [ext_old h1] at e
    by_cases h : H b = none
    · rw [ext_new h] at e ⊢
      exact g b o h e
    · rw [ext_old h] at e ⊢
      exact e
theorem ext_partS {G H H' : Hp} {S : Addr → Prop} (p : Part G H) (hS : ∀ b, S b → G b = none) (g : But S H H') : Part (ext G H H') H' := fun b o e => by
  by_cases h : H b = none
  · rw [ext_new h] at e; exact e
  · rw [ext_old h] at e
    exact g b o (p b o e) fun s => by rw [hS b s] at e; cases e
theorem DpAll.rev {K : PySem.W.Frag} {H : Hp} : ∀ {vs : List V} {ds : List PyData}, DpAll K H vs ds → DpAll K H vs.reverse ds.reverse
  | [], [], _ => .nil
  | [], _ :: _, a => by cases a
  | _ :: _, [], a => by cases a
  | v :: vs, d :: ds, a => by
    cases a with
    | cons h t =>
      rw [List.reverse_cons, List.reverse_cons]
      exact DpAll.append (DpAll.rev t) (.cons h .nil)
end L2.G42

set_option Elab.async false
set_option linter.all false
set_option maxRecDepth 100000
set_option maxHeartbeats 4000000
namespace L2.G42
open PySem PySem.Spec
/-- the first token beyond a bound -/
def fst (k a b : Nat) (cs : List Nat) : List Str → Option Nat
  | [] => none
  | t :: ts => if t = "{" then (if 6 < a + 1 ∨ 4 < cs.length + 1 then some (k - 1) else fst (k + 1) (a + 1) b (0 :: cs) ts)
    else if t = "}" then fst (k + 1) a b cs.tail ts
    else if t = "," then (if 2 < cs.headD 0 + 1 then some k else fst (k + 1) a b ((cs.headD 0 + 1) :: cs.tail) ts)
    else if kinds.contains t = true then (if 6 < b + 1 then some k else fst (k + 1) a (b + 1) cs ts)
    else fst (k + 1) a b cs ts
theorem fst_plain {k a b : Nat} {cs : List Nat} {t : Str} {ts : List Str} (h1 : t ≠ "{") (h2 : t ≠ "}") (h3 : t ≠ ",") (h4 : kinds.contains t = false) : fst k a b cs (t :: ts) = fst (k + 1) a b cs ts := by
  rw [fst, if_neg h1, if_neg h2, if_neg h3, if_neg (by rw [h4]; decide)]
theorem word_plain {t : Str} (h : wordS t) : t ≠ "{" ∧ t ≠ "}" ∧ t ≠ "," ∧ kinds.contains t = false := by
  have no : ∀ s : Str, signS s → t ≠ s := fun s hs e => by
    obtain ⟨c, e1, h1, _⟩ := hs
    rw [e] at h
    have := h.2 c (by rw [e1]; exact List.mem_cons_self)
    rw [h1] at this
    cases this
  refine ⟨no _ sg_open, no _ sg_close, no _ sg_comma, ?_⟩
  cases e : kinds.contains t with
  | false => rfl
  | true => exact absurd rfl (no t (kind_sign (List.contains_iff_mem.mp e)))
theorem fst_word {k a b : Nat} {cs : List Nat} {t : Str} {ts : List Str} (h : wordS t) : fst k a b cs (t :: ts) = fst (k + 1) a b cs ts := let ⟨h1, h2, h3, h4⟩ := word_plain h; fst_plain h1 h2 h3 h4
theorem fst_colon {k a b : Nat} {cs : List Nat} {ts : List Str} : fst k a b cs (Str.ofString ":" :: ts) = fst (k + 1) a b cs ts := fst_plain (by decide) (by decide) (by decide) (by decide +kernel)
theorem fst_close {k a b : Nat} {cs : List Nat} {ts : List Str} : fst k a b cs (Str.ofString "}" :: ts) = fst (k + 1) a b cs.tail ts := by
  rw [fst, if_neg (by decide), if_pos rfl]
theorem fst_comma {k a b : Nat} {cs : List Nat} {ts : List Str} : fst k a b cs (Str.ofString "," :: ts) = (if 2 < cs.headD 0 + 1 then some k else fst (k + 1) a b ((cs.headD 0 + 1) :: cs.tail) ts) := by
  rw [fst, if_neg (by decide), if_neg (by decide), if_pos rfl]
theorem fst_open {k a b : Nat} {cs : List Nat} {ts : List Str} : fst k a b cs (Str.ofString "{" :: ts) = (if 6 < a + 1 ∨ 4 < cs.length + 1 then some (k - 1) else fst (k + 1) (a + 1) b (0 :: cs) ts) := by
  rw [fst, if_pos rfl]
theorem fst_kind {k a b : Nat} {cs : List Nat} {t : Str} {ts : List Str} (h : t ∈ kinds) : fst k a b cs (t :: ts) = (if 6 < b + 1 then some k else fst (k + 1) a (b + 1) cs ts) := by
  have : ∀ t ∈ kinds, t ≠ "{" ∧ t ≠ "}" ∧ t ≠ "," := by decide +kernel
  obtain ⟨h1, h2, h3⟩ := this t h
  rw [fst, if_neg h1, if_neg h2, if_neg h3, if_pos (List.contains_iff_mem.mpr h)]
/-- reader and first token go along -/
def Sim (s : Rd) (res : Except Nat Rd) (s' : Rd) (ts : List (Nat × List Nat)) (k : Nat) (cs cs' : List Nat) : Prop :=
  (res = .ok s' ∧ s'.nt ≤ 6 ∧ s'.nb ≤ 6 ∧ ∀ rw, fst k s.nt s.nb cs (ts.map tw ++ rw) = fst (k + ts.length) s'.nt s'.nb cs' rw) ∨
  ∃ j tok, ts[j]? = some tok ∧ res = .error tok.1 ∧ ∀ rw, fst k s.nt s.nb cs (ts.map tw ++ rw) = some (k + j)
theorem Sim.bind {s s1 s2 : Rd} {r1 : Except Nat Rd} {f : Rd → Except Nat Rd} {ts1 ts2 : List (Nat × List Nat)} {k : Nat} {cs cs1 cs2 : List Nat} (h1 : Sim s r1 s1 ts1 k cs cs1) (h2 : s1.nt ≤ 6 → s1.nb ≤ 6 → Sim s1 (f s1) s2 ts2 (k + ts1.length) cs1 cs2) : Sim s (r1.bind f) s2 (ts1 ++ ts2) k cs cs2 := by
  rcases h1 with ⟨e, a, b, w⟩ | ⟨j, tok, hj, e, w⟩
  · subst e
    rcases h2 a b with ⟨e2, a2, b2, w2⟩ | ⟨j, tok, hj, e2, w2⟩
    · refine .inl ⟨e2, a2, b2, fun rw' => ?_⟩
      rw [List.map_append, List.append_assoc, w, w2, List.length_append]
      congr 1
      omega
    · refine .inr ⟨ts1.length + j, tok, ?_, e2, fun rw' => ?_⟩
      · rw [List.getElem?_append_right (by omega)]
        rw [show ts1.length + j - ts1.length = j by omega]
        exact hj
      · rw [List.map_append, List.append_assoc, w, w2]
        congr 1
        omega
  · subst e
    refine .inr ⟨j, tok, ?_, rfl, fun rw' => ?_⟩
    · rw [List.getElem?_append_left]
      · exact hj
      · rcases Nat.lt_or_ge j ts1.length with z | z
        · exact z
        · rw [List.getElem?_eq_none z] at hj; cases hj
    · rw [List.map_append, List.append_assoc, w]
theorem ebind_assoc (r : Except Nat Rd) (f g : Rd → Except Nat Rd) : (r.bind f).bind g = r.bind fun x => (f x).bind g := by cases r <;> rfl
theorem pos_of {s : Rd} {t : Nat × List Nat} {r : List (Nat × List Nat)} (h : s.ah = t :: r) : s.pos = t.1 := by
  have hl := (word_of h).2.2
  have hd : s.toks.drop s.at_ = s.toks[s.at_] :: s.toks.drop (s.at_ + 1) := List.drop_eq_getElem_cons hl
  unfold Rd.ah at h
  rw [hd] at h
  injection h with h1 _
  unfold Rd.pos
  rw [List.getElem?_eq_getElem hl, h1]
namespace Tr
/-- an entry's reader goes along -/
def SimE (ent : Rd → Except Nat Rd) (p : List Str) (n L : Nat) (e : Str × Tr n) : Prop := ∀ (s : Rd) (ts rest : List (Nat × List Nat)) (k : Nat) (cs : List Nat), cs.length + L = 4 → s.nt ≤ 6 → s.nb ≤ 6 → s.ah = ts ++ rest → ts.map tw = part e → Free s (p ++ [e.1]) →
  Sim s (ent s) (s.adv ts.length (marks n (p ++ [e.1]) e.2) (nt n e.2) (nb n e.2)) ts k cs cs
theorem sim_more {ent : Rd → Except Nat Rd} {p : List Str} {n L : Nat} : ∀ (es : List (Str × Tr n)) (j : Nat) (s : Rd) (ts rest : List (Nat × List Nat)) (k c : Nat) (cs : List Nat), (∀ e ∈ es, SimE ent p n L e) → c + j = 2 → cs.length + 1 + L = 4 → s.nt ≤ 6 → s.nb ≤ 6 → s.ah = ts ++ rest → ts.map tw = (es.map fun e => Str.ofString "," :: part e).flatten →
    (∀ t r, rest = t :: r → tw t ≠ ",") → DiffBy (·.1) es → (∀ e ∈ es, Free s (p ++ [e.1])) →
    Sim s (rdMore ent j s) (s.adv ts.length (es.flatMap fun e => marks n (p ++ [e.1]) e.2) (es.map fun e => nt n e.2).sum (es.map fun e => nb n e.2).sum) ts k (c :: cs) ((c + es.length) :: cs)
  | [], j, s, ts, rest, k, c, cs, _, _, _, h6, h6', ha, ht, hr, _, _ => by
    have e : ts = [] := List.map_eq_nil_iff.mp ht
    subst e
    have hw : s.word ≠ "," := by
      cases rest with
      | nil => rw [word_nil ha]; decide
      | cons t r => rw [(word_of ha).1]; exact hr t r rfl
    have e2 : s.adv ([] : List (Nat × List Nat)).length (([] : List (Str × Tr n)).flatMap fun e => marks n (p ++ [e.1]) e.2) 0 0 = s := by
      unfold Rd.adv kmk
      simp
    refine .inl ⟨?_, h6, h6', fun rw' => ?_⟩
    · cases j with
      | zero => rw [rdMore, if_neg hw]; exact congrArg Except.ok e2.symm
      | succ j => rw [rdMore, if_neg hw]; exact congrArg Except.ok e2.symm
    · rfl
  | e :: es, j, s, ts, rest, k, c, cs, he, hc, hL, h6, h6', ha, ht, hr, hd, hf => by
    rw [List.map_cons, List.flatten_cons] at ht
    obtain ⟨ta, tb, rfl, m1, m2⟩ := map_app_inv ht
    obtain ⟨tc, ta, rfl, m3, m4⟩ := map_cons_inv m1
    have ha' : s.ah = tc :: (ta ++ (tb ++ rest)) := by rw [ha]; simp
    have w := word_of ha'
    cases j with
    | zero =>
      refine .inr ⟨0, tc, rfl, ?_, fun rw' => ?_⟩
      · rw [rdMore, if_pos (w.1.trans m3), pos_of ha']
      · rw [List.cons_append, List.map_cons, m3, List.cons_append, fst_comma, if_pos (by show 2 < c + 1; omega)]
        rfl
    | succ j =>
      rw [rdMore, if_pos (w.1.trans m3)]
      have hs : s.step = s.adv 1 [] 0 0 := by
        unfold Rd.adv Rd.step kmk
        simp
      have hd' := List.pairwise_cons.mp hd
      -- the comma
      have s0 : Sim s (.ok s.step) s.step [tc] k (c :: cs) ((c + 1) :: cs) := by
        refine .inl ⟨rfl, h6, h6', fun rw' => ?_⟩
        rw [List.map_singleton, m3, List.singleton_append, fst_comma, if_neg (by show ¬ 2 < c + 1; omega)]
        rfl
      have s1 := he e List.mem_cons_self s.step ta (tb ++ rest) (k + 1) ((c + 1) :: cs) (by rw [List.length_cons]; omega) h6 h6' w.2.1 m4 (hf e List.mem_cons_self)
      have s2 := Sim.bind (f := ent) s0 fun _ _ => s1
      have g1 : ∀ x ∈ es, Free (s.step.adv ta.length (marks n (p ++ [e.1]) e.2) (nt n e.2) (nb n e.2)) (p ++ [x.1]) := fun x hx => Free.adv (s := s.step) (hf x (List.mem_cons_of_mem _ hx)) (marks_pre n e.2 (p ++ [e.1])) (ne_keys (hd'.1 x hx))
      have s3 := Sim.bind (f := rdMore ent j) s2 fun a b => sim_more es j _ tb rest (k + (([tc] : List (Nat × List Nat)) ++ ta).length) (c + 1) cs (fun x hx => he x (List.mem_cons_of_mem _ hx)) (by omega) hL a b (adv_ah w.2.1 rfl _ _ _) m2 hr hd'.2 g1
      have e3 : (s.step.adv ta.length (marks n (p ++ [e.1]) e.2) (nt n e.2) (nb n e.2)).adv tb.length (es.flatMap fun e => marks n (p ++ [e.1]) e.2) (es.map fun e => nt n e.2).sum (es.map fun e => nb n e.2).sum = s.adv (tc :: ta ++ tb).length ((e :: es).flatMap fun e => marks n (p ++ [e.1]) e.2) ((e :: es).map fun e => nt n e.2).sum ((e :: es).map fun e => nb n e.2).sum := by
        rw [hs, adv_adv, adv_adv]
        simp only [List.nil_append, Nat.zero_add, List.flatMap_cons, List.map_cons, List.sum_cons, List.length_cons, List.length_append]
        congr 1
        omega
      rw [e3] at s3
      have e4 : c + 1 + es.length = c + (e :: es).length := by rw [List.length_cons]; omega
      rw [e4] at s3
      exact s3
/-- a table's reader goes along -/
def SimT (n : Nat) (t : Tr n) (p : List Str) (L : Nat) : Prop := ∀ (s : Rd) (ts rest : List (Nat × List Nat)) (k : Nat) (cs : List Nat), cs.length + L = 4 → s.nt ≤ 6 → s.nb ≤ 6 → s.ah = ts ++ rest → ts.map tw = toks n t → Free s p →
  Sim s (rdTable L (kp p) s) (s.adv ts.length (marks n p t) (nt n t) (nb n t)) ts k cs cs
theorem sim_ent {n L : Nat} {p : List Str} {e : Str × Tr n} (hk : isKey e.1 = true) (ho : Ok n e.2) (hT : e.2.isRight = true → SimT n e.2 (p ++ [e.1]) L) : SimE (rdEntry (rdTable L) (kp p)) p n L e := by
  intro s ts rest k cs hL h6 h6' ha ht hf
  obtain ⟨t0, ts, rfl, m0, ht⟩ := map_cons_inv ht
  obtain ⟨t1, ts, rfl, m1, ht⟩ := map_cons_inv ht
  have w := word_of ha
  have kk : kp p ++ [Sum.inr s.word] = kp (p ++ [e.1]) := by
    rw [kp_app, w.1, m0]
    rfl
  have hs : s.step.adv 1 [] 0 0 = s.adv 2 [] 0 0 := by
    unfold Rd.adv Rd.step kmk
    simp
  have ha2 : (s.adv 2 [] 0 0).ah = ts ++ rest := adv_ah (s := s) (ts := [t0, t1]) (rest := ts ++ rest) ha (k := 2) rfl [] 0 0
  have f2 : Free (s.adv 2 [] 0 0) (p ++ [e.1]) := fun q hq r => hf q (by simpa [Rd.adv, kmk] using hq) r
  have s0 : Sim s (.ok (s.adv 2 [] 0 0)) (s.adv 2 [] 0 0) [t0, t1] k cs cs := by
    refine .inl ⟨rfl, h6, h6', fun rw' => ?_⟩
    rw [List.map_cons, List.map_singleton, m0, m1]
    show fst k s.nt s.nb cs (e.1 :: Str.ofString ":" :: rw') = _
    rw [fst_word (key_word hk), fst_colon]
    rfl
  have eq : rdEntry (rdTable L) (kp p) s = (Except.ok (s.adv 2 [] 0 0)).bind fun s2 => if kinds.contains s2.word = false then rdTable L (kp (p ++ [e.1])) s2 else if s2.nb = 6 then .error s2.pos else .ok { s2.step with nb := s2.nb + 1, marks := putK s2.marks (kp (p ++ [e.1])) (.str s2.word) } := by
    unfold rdEntry
    rw [if_neg (by rw [kk, val_none hf, w.1, m0, hk]; simp), take_of (s := s.step) w.2.1 m1, hs, kk]
  rw [eq]
  obtain ⟨key, t⟩ := e
  cases hR : t.isRight with
  | false =>
    obtain ⟨kd, rfl⟩ : ∃ k, t = .inl k := by
      cases t with
      | inl k => exact ⟨k, rfl⟩
      | inr x => cases hR
    have ho : kd ∈ kinds := by rw [← ok_bag (n := n)]; exact ho
    have ht : ts.map tw = [kd] := by rw [← toks_bag (n := n)]; exact ht
    obtain ⟨t2, ts, rfl, m2, ht⟩ := map_cons_inv ht
    have e : ts = [] := List.map_eq_nil_iff.mp ht
    subst e
    have w2 := word_of ha2
    have e1 : marks n (p ++ [key]) (.inl kd : Tr n) = [(p ++ [key], kd)] := marks_bag
    have e2 : nt n (.inl kd : Tr n) = 0 := nt_bag
    have e3 : nb n (.inl kd : Tr n) = 1 := nb_bag
    have hkc : kinds.contains (s.adv 2 [] 0 0).word = true := by
      rw [w2.1, m2]
      exact List.contains_iff_mem.mpr ho
    have := Sim.bind (s2 := s.adv 3 [(p ++ [key], kd)] 0 1) (ts2 := [t2]) (cs2 := cs) (f := fun s2 => if kinds.contains s2.word = false then rdTable L (kp (p ++ [key])) s2 else if s2.nb = 6 then .error s2.pos else .ok { s2.step with nb := s2.nb + 1, marks := putK s2.marks (kp (p ++ [key])) (.str s2.word) }) s0 fun _ _ => ?_
    · show Sim s _ (s.adv 3 (marks n (p ++ [key]) (.inl kd)) (nt n (.inl kd)) (nb n (.inl kd))) [t0, t1, t2] k cs cs
      rw [e1, e2, e3]
      exact this
    · show Sim _ (if _ then _ else if _ then _ else _) _ _ _ _ _
      rw [if_neg (by rw [hkc]; decide)]
      by_cases h : (s.adv 2 [] 0 0).nb = 6
      · rw [if_pos h]
        refine .inr ⟨0, t2, rfl, by rw [pos_of ha2], fun rw' => ?_⟩
        rw [List.map_singleton, m2, List.singleton_append, fst_kind ho, if_pos (by omega)]
        rfl
      · rw [if_neg h]
        have h6b : s.nb + 1 ≤ 6 := by
          have : ¬ s.nb = 6 := h
          omega
        refine .inl ⟨?_, h6, h6b, fun rw' => ?_⟩
        · rw [put_new f2, w2.1, m2]
          unfold Rd.adv Rd.step kmk
          simp
        · rw [List.map_singleton, m2, List.singleton_append, fst_kind ho, if_neg (by show ¬ 6 < s.nb + 1; omega)]
          rfl
  | true =>
    obtain ⟨m, r, e1, hm⟩ := head_tab n t hR ho
    have ht' := ht
    rw [e1] at ht'
    obtain ⟨t2, ts2, rfl, m2, _⟩ := map_cons_inv ht'
    have w2 := word_of ha2
    have st := hT hR (s.adv 2 [] 0 0) (t2 :: ts2) rest (k + 2) cs hL h6 h6' ha2 ht f2
    have := Sim.bind (s2 := (s.adv 2 [] 0 0).adv (t2 :: ts2).length (marks n (p ++ [key]) t) (nt n t) (nb n t)) (ts2 := t2 :: ts2) (cs2 := cs) (f := fun s2 => if kinds.contains s2.word = false then rdTable L (kp (p ++ [key])) s2 else if s2.nb = 6 then .error s2.pos else .ok { s2.step with nb := s2.nb + 1, marks := putK s2.marks (kp (p ++ [key])) (.str s2.word) }) s0 fun _ _ => by
      show Sim _ (if _ then _ else _) _ _ _ _ _
      rw [if_pos (by rw [w2.1, m2]; exact kinds_not hm)]
      exact st
    rw [adv_adv] at this
    simp only [List.nil_append, Nat.zero_add, List.length_cons] at this ⊢
    rw [show ts2.length + 1 + 1 + 1 = 2 + (ts2.length + 1) by omega]
    exact this
theorem sim_tab : ∀ (n : Nat) (t : Tr n), Ok n t → t.isRight = true → ∀ p L, SimT n t p L := by
  refine ind (fun n k _ h => by cases h) (fun n m es ih ho _ p L s ts rest k cs hL h6 h6' ha ht hf => ?_)
  rw [ok_tab] at ho
  rw [toks_tab] at ht
  obtain ⟨hm, ne, hd, hes⟩ := ho
  obtain ⟨t0, ts, rfl, m0, ht⟩ := map_cons_inv ht
  obtain ⟨t1, ts, rfl, m1, ht⟩ := map_cons_inv ht
  obtain ⟨te, tz, rfl, m2, m3⟩ := map_app_inv ht
  obtain ⟨tc, tz, rfl, m4, m5⟩ := map_cons_inv m3
  have e0 : tz = [] := List.map_eq_nil_iff.mp m5
  subst e0
  have w := word_of ha
  have hmc : modes.contains s.word = true := by
    rw [w.1, m0]
    exact modes_in hm
  have hmw := mode_word hm
  -- refused at the mode
  have bad : ∀ res, res = Except.error s.pos → (6 < s.nt + 1 ∨ 4 < cs.length + 1) → Sim s res (s.adv (t0 :: t1 :: (te ++ [tc])).length (marks (n + 1) p (tab m es)) (nt (n + 1) (tab m es)) (nb (n + 1) (tab m es))) (t0 :: t1 :: (te ++ [tc])) k cs cs := fun res er hb => by
    refine .inr ⟨0, t0, rfl, by rw [er, pos_of ha], fun rw' => ?_⟩
    rw [List.map_cons, List.map_cons, m0, m1]
    show fst k s.nt s.nb cs (m :: Str.ofString "{" :: _) = _
    rw [fst_word hmw, fst_open, if_pos hb]
    rfl
  cases L with
  | zero => exact bad _ rfl (.inr (by omega))
  | succ L =>
    unfold rdTable
    by_cases h6t : s.nt = 6
    · rw [if_pos (.inr h6t)]
      exact bad _ rfl (.inl (by omega))
    · rw [if_neg (by rw [hmc]; simp [h6t])]
      have e1 : ({ s.step with nt := s.nt + 1, marks := putK s.marks (kp p) (.str s.word) } : Rd) = s.adv 1 [(p, m)] 1 0 := by
        rw [put_new hf, w.1, m0]
        unfold Rd.adv Rd.step kmk
        simp
      rw [e1]
      have ha1 : (s.adv 1 [(p, m)] 1 0).ah = t1 :: (te ++ (tc :: rest)) := adv_ah (s := s) (ts := [t0]) (rest := t1 :: (te ++ (tc :: rest))) (by rw [ha]; simp) (k := 1) rfl [(p, m)] 1 0
      rw [take_of ha1 m1, adv_adv]
      have ha2 : (s.adv (1 + 1) ([(p, m)] ++ []) (1 + 0) (0 + 0)).ah = te ++ (tc :: rest) := adv_ah (s := s) (ts := [t0, t1]) (rest := te ++ (tc :: rest)) (by rw [ha]; simp) (k := 1 + 1) rfl ([(p, m)] ++ []) (1 + 0) (0 + 0)
      have f2 : ∀ e ∈ es, Free (s.adv (1 + 1) ([(p, m)] ++ []) (1 + 0) (0 + 0)) (p ++ [e.1]) := fun e _ => by
        intro q hq r eq
        rcases List.mem_append.mp (show q ∈ s.marks ++ kmk ([(p, m)] ++ []) from hq) with hq | hq
        · exact hf.under e.1 q hq r eq
        · have : q = (kp p, V.str m) := by simpa [kmk] using hq
          rw [this, kp_app, List.append_assoc] at eq
          have := congrArg List.length eq
          simp [kp] at this
      have s0 : Sim s (.ok (s.adv (1 + 1) ([(p, m)] ++ []) (1 + 0) (0 + 0))) (s.adv (1 + 1) ([(p, m)] ++ []) (1 + 0) (0 + 0)) [t0, t1] k cs (0 :: cs) := by
        refine .inl ⟨rfl, by show s.nt + 1 ≤ 6; omega, h6', fun rw' => ?_⟩
        rw [List.map_cons, List.map_singleton, m0, m1]
        show fst k s.nt s.nb cs (m :: Str.ofString "{" :: rw') = _
        rw [fst_word hmw, fst_open, if_neg (by omega)]
        rfl
      have hent : ∀ e ∈ es, SimE (rdEntry (rdTable L) (kp p)) p n L e := fun e he => sim_ent (hes e he).1 (hes e he).2 fun hR => ih e he (hes e he).2 hR (p ++ [e.1]) L
      cases es with
      | nil => exact absurd rfl ne
      | cons e es =>
        rw [List.map_cons, commas] at m2
        obtain ⟨ta, tb, rfl, m6, m7⟩ := map_app_inv m2
        rw [List.map_map] at m7
        have hd' := List.pairwise_cons.mp hd
        have s1 := Sim.bind (f := rdEntry (rdTable L) (kp p)) s0 fun a b => hent e List.mem_cons_self _ ta (tb ++ (tc :: rest)) (k + 2) (0 :: cs) (by rw [List.length_cons]; omega) a b (by rw [ha2]; simp) m6 (f2 e List.mem_cons_self)
        have ha3 := adv_ah (s := s.adv (1 + 1) ([(p, m)] ++ []) (1 + 0) (0 + 0)) (ts := ta) (rest := tb ++ (tc :: rest)) (by rw [ha2]; simp) rfl (marks n (p ++ [e.1]) e.2) (nt n e.2) (nb n e.2)
        have g0 : ∀ t r, tc :: rest = t :: r → tw t ≠ "," := fun t r q => by
          injection q with q1 q2
          rw [← q1, m4]
          decide
        have g1 : ∀ x ∈ es, Free ((s.adv (1 + 1) ([(p, m)] ++ []) (1 + 0) (0 + 0)).adv ta.length (marks n (p ++ [e.1]) e.2) (nt n e.2) (nb n e.2)) (p ++ [x.1]) := fun x hx => (f2 x (List.mem_cons_of_mem _ hx)).adv (marks_pre n e.2 (p ++ [e.1])) (ne_keys (hd'.1 x hx))
        have s2 := Sim.bind (f := rdMore (rdEntry (rdTable L) (kp p)) 2) s1 fun a b => sim_more es 2 _ tb (tc :: rest) (k + (([t0, t1] : List (Nat × List Nat)) ++ ta).length) 0 cs (fun x hx => hent x (List.mem_cons_of_mem _ hx)) rfl (by omega) a b ha3 m7 g0 hd'.2 g1
        rw [adv_adv] at s2
        have ha4 := adv_ah (s := s.adv (1 + 1) ([(p, m)] ++ []) (1 + 0) (0 + 0)) (ts := ta ++ tb) (rest := tc :: rest) (by rw [ha2]) (k := ta.length + tb.length) (by simp) (marks n (p ++ [e.1]) e.2 ++ es.flatMap fun e => marks n (p ++ [e.1]) e.2) (nt n e.2 + (es.map fun e => nt n e.2).sum) (nb n e.2 + (es.map fun e => nb n e.2).sum)
        have s3 := Sim.bind (f := rdTake "}") (ts2 := [tc]) (cs2 := cs) (s2 := ((s.adv (1 + 1) ([(p, m)] ++ []) (1 + 0) (0 + 0)).adv (ta.length + tb.length) (marks n (p ++ [e.1]) e.2 ++ es.flatMap fun e => marks n (p ++ [e.1]) e.2) (nt n e.2 + (es.map fun e => nt n e.2).sum) (nb n e.2 + (es.map fun e => nb n e.2).sum)).adv 1 [] 0 0) s2 fun a b => .inl ⟨take_of ha4 m4, a, b, fun rw' => by
          rw [List.map_singleton, m4]
          show fst _ _ _ _ (Str.ofString "}" :: rw') = _
          rw [fst_close]
          rfl⟩
        have e5 : ((s.adv (1 + 1) ([(p, m)] ++ []) (1 + 0) (0 + 0)).adv (ta.length + tb.length) (marks n (p ++ [e.1]) e.2 ++ es.flatMap fun e => marks n (p ++ [e.1]) e.2) (nt n e.2 + (es.map fun e => nt n e.2).sum) (nb n e.2 + (es.map fun e => nb n e.2).sum)).adv 1 [] 0 0 = s.adv (t0 :: t1 :: (ta ++ tb ++ [tc])).length (marks (n + 1) p (tab m (e :: es))) (nt (n + 1) (tab m (e :: es))) (nb (n + 1) (tab m (e :: es))) := by
          rw [adv_adv, adv_adv, marks_tab, nt_tab, nb_tab]
          simp only [List.nil_append, List.append_nil, List.singleton_append, Nat.zero_add, Nat.add_zero, List.flatMap_cons, List.map_cons, List.sum_cons, List.length_cons, List.length_append, List.length_nil, List.cons_append]
          congr 1
          omega
        rw [e5, ebind_assoc, ebind_assoc] at s3
        have e6 : ([t0, t1] ++ ta ++ tb ++ [tc] : List (Nat × List Nat)) = t0 :: t1 :: (ta ++ tb ++ [tc]) := by simp
        rw [e6] at s3
        exact s3
end Tr
end L2.G42

set_option Elab.async false
set_option linter.all false
set_option maxRecDepth 100000
set_option maxHeartbeats 4000000
namespace L2.G42
open PySem PySem.Spec
/-- the keys of a table that is drawn, and those left (no bound on how many) -/
structure KsG (n : Nat) (ks : List Str) (es : List (Str × Tr n)) : Prop where
  nd : (es.map (·.1) ++ ks).Nodup
  key : ∀ k ∈ ks, isKey k = true
  ok : ∀ e ∈ es, isKey e.1 = true ∧ Tr.Ok n e.2
theorem KsG.step {n : Nat} {ks : List Str} {es : List (Str × Tr n)} (S : KsG n ks es) {i : Nat} {key : Str} (hi : ks[i]? = some key) {t : Tr n} (ho : Tr.Ok n t) : KsG n (ks.eraseIdx i) (es ++ [(key, t)]) := by
  have hlt : i < ks.length := by
    rcases Nat.lt_or_ge i ks.length with q | q
    · exact q
    · rw [List.getElem?_eq_none q] at hi; cases hi
  have hk : key ∈ ks := List.mem_of_getElem? hi
  have e : ks = ks.take i ++ key :: ks.drop (i + 1) := by
    have := List.take_append_drop i ks
    rw [List.drop_eq_getElem_cons hlt] at this
    rw [List.getElem?_eq_getElem hlt] at hi
    injection hi with hi
    rw [hi] at this
    exact this.symm
  refine ⟨?_, fun k h => S.key k (List.mem_of_mem_eraseIdx h), fun x hx => ?_⟩
  · have nd := S.nd
    have p : ((es ++ [(key, t)]).map (·.1) ++ ks.eraseIdx i).Perm (es.map (·.1) ++ ks) := by
      rw [List.map_append, List.append_assoc, List.eraseIdx_eq_take_drop_succ]
      refine List.Perm.append_left _ ?_
      have q : (key :: (ks.take i ++ ks.drop (i + 1))).Perm (ks.take i ++ key :: ks.drop (i + 1)) := List.perm_middle.symm
      rw [← e] at q
      exact q
    exact p.nodup_iff.mpr nd
  · rcases List.mem_append.mp hx with h | h
    · exact S.ok x h
    · rw [List.mem_singleton.mp h]
      exact ⟨S.key key hk, ho⟩
/-- a table is drawn that need not keep the bounds -/
def spGrown (K : PySem.W.Frag) (n : Nat) : Sp := fun vs H Q _ => ∃ (a wl lf sh : Addr) (ws : List Str) (lv tb bb d wd x : Nat), vs = [.ref a, .ref wl, .ref lf, .int (lv : Nat), .ref sh] ∧ lv + n = d + 1 ∧ H sh = some (.lst [.int (d : Nat), .int (wd : Nat), .int (x : Nat)]) ∧ sh ≠ a ∧ sh ≠ lf ∧ 1 ≤ wd ∧ wd ≤ 5 ∧ SrcAt H a ∧ H wl = some (.lst (ws.map V.str)) ∧ H lf = some (.lst [.int (tb : Nat), .int (bb : Nat)]) ∧ a ≠ wl ∧ a ≠ lf ∧ wl ≠ lf ∧ 5 ≤ ws.length ∧ ws.length ≤ 20 ∧ ws.Nodup ∧ (∀ w ∈ ws, isKey w = true) ∧ tb ≤ 100 ∧ bb ≤ 100 ∧
  ∀ (v : V) (t : Tr n) (t1 b1 : Nat) (G H' : Hp), t.isRight = true → Tr.Ok n t → Tr.nt n t + t1 = tb + 1 → Tr.nb n t + b1 = bb + 1 → Dp K G v (Tr.dat n t) → Part G H' → (∀ x, H x ≠ none → G x = none) → SrcAt H' a → H' lf = some (.lst [.int (t1 : Nat), .int (b1 : Nat)]) → But (fun x => x = a ∨ x = lf) H H' → Q v H'
theorem Tr.rows_count : ∀ (n : Nat) (t : Tr n) (p : List Str), (rows n p t).length = nt n t + nb n t := by
  refine ind (fun n k p => by rw [rows_bag, nt_bag, nb_bag]; rfl) (fun n m es ih p => ?_)
  rw [rows_tab, nt_tab, nb_tab, List.length_cons, len_flatMap]
  have : (es.map fun e => (rows n (p ++ [e.1]) e.2).length) = es.map fun e => nt n e.2 + nb n e.2 := List.map_congr_left fun e he => ih e he _
  rw [this]
  have sp : ∀ l : List (Str × Tr n), (l.map fun e => nt n e.2 + nb n e.2).sum = (l.map fun e => nt n e.2).sum + (l.map fun e => nb n e.2).sum := fun l => by
    induction l with
    | nil => rfl
    | cons x l ih => rw [List.map_cons, List.map_cons, List.map_cons, List.sum_cons, List.sum_cons, List.sum_cons, ih]; omega
  rw [sp]
  omega
/-- what a loose text of a tree gives -/
theorem bounds_loose {n : Nat} {t : Tr n} (hR : t.isRight = true) (ho : Tr.Ok n t) {ps : List (Nat × List Nat)} {e : Nat} (hp : ps.map (fun x => tx x.2) = Tr.toks n t) :
    (fst 0 0 0 [] (Tr.toks n t) = none ∧ ∃ s2, rdWhole (rdStart (tx (loose ps e))) = .ok s2 ∧ s2.marks = kmk (Tr.marks n [] t)) ∨
    ∃ j tok, fst 0 0 0 [] (Tr.toks n t) = some j ∧ (placed 0 ps)[j]? = some tok ∧ rdWhole (rdStart (tx (loose ps e))) = .error tok.1 := by
  have et : (rdStart (tx (loose ps e))).toks = placed 0 ps := by
    show toks 0 (tx (loose ps e)).cps.toList = _
    rw [tx_cps, toks_of_loose ho hp]
  have ea : (rdStart (tx (loose ps e))).ah = placed 0 ps ++ [] := by
    show (rdStart (tx (loose ps e))).toks.drop 0 = _
    rw [et, List.drop_zero, List.append_nil]
  have tw' : (placed 0 ps).map tw = Tr.toks n t := by rw [placed_tw, hp]
  rcases Tr.sim_tab n t ho hR [] 4 (rdStart (tx (loose ps e))) (placed 0 ps) [] 0 [] rfl (Nat.zero_le _) (Nat.zero_le _) ea tw' (fun q hq => by cases hq) with ⟨e1, _, _, w⟩ | ⟨j, tok, hj, e1, w⟩
  · left
    have w0 := w []
    rw [List.append_nil, tw'] at w0
    refine ⟨w0, (rdStart (tx (loose ps e))).adv (placed 0 ps).length (Tr.marks n [] t) (Tr.nt n t) (Tr.nb n t), ?_, rfl⟩
    unfold rdWhole
    have e1' : rdTable 4 [] (rdStart (tx (loose ps e))) = _ := e1
    rw [e1']
    show (if _ then _ else _) = _
    rw [if_neg]
    show ¬ 0 + (placed 0 ps).length < (rdStart (tx (loose ps e))).toks.length
    rw [et]
    omega
  · right
    have w0 := w []
    rw [List.append_nil, tw', Nat.zero_add] at w0
    refine ⟨j, tok, w0, hj, ?_⟩
    unfold rdWhole
    have e1' : rdTable 4 [] (rdStart (tx (loose ps e))) = _ := e1
    rw [e1']
    rfl
end L2.G42

set_option Elab.async false
set_option linter.all false
set_option maxRecDepth 100000
set_option maxHeartbeats 4000000
namespace L2.G42
open PySem PySem.Spec
/-- Book.read(_law_loose(source, _law_tokens(item))[0]), behind the item -/
def rdItem (K : PySem.W.Frag) (BK B S : Addr) (n : Nat) (v : V) (H : Hp) (Q : VK) : Prop :=
  spToksT K n [v] H (fun x H1 => spLoose K [.ref S, x] H1 (fun y H2 => rIxT K y (.int 0) H2 fun z H3 => spRead K BK B [.ref BK, z] H3 Q E0) E0) E0
/-- the facts of an item that is read -/
structure Rdb (t : Tr 4) : Prop where
  r : t.isRight = true
  ok : Tr.Ok 4 t
  few : Tr.Few 4 t
  nt : Tr.nt 4 t ≤ 6
  nb : Tr.nb 4 t ≤ 6
theorem Rdb.rows {t : Tr 4} (h : Rdb t) : (Tr.rows 4 [] t).length ≤ 12 := by
  have h1 := h.nt
  have h2 := h.nb
  rw [Tr.rows_count]
  omega
theorem rd_item {K : PySem.W.Frag} {BK B S : Addr} {v : V} {t : Tr 4} {G H : Hp} {Q : VK} (pa : Part G H) (gS : G S = none) (dp : Dp K G v (Tr.dat 4 t)) (hR : Rdb t) (src : SrcAt H S)
    (k : ∀ (b D : Addr) (H' : Hp), H b = none → BkTr BK H' b D 4 (Tr.srt 4 t) → SrcAt H' S → But (· = S) H H' → Q (.ref b) H') : rdItem K BK B S 4 v H Q := by
  have few := hR.rows
  have hO := hR.ok
  have hTl := Tr.toks_len 4 t []
  refine ⟨v, t, rfl, Dp.part pa _ _ dp, by omega, fun tl H6 htl etl g56 => ?_⟩
  have src6 := SrcAt.but src g56
  have nSt : S ≠ tl := fun e => src_ne' src (e ▸ htl)
  refine ⟨S, tl, _, rfl, src6, SqL.of etl, nSt, by omega, Tr.toks_short _ t hO, fun p q ps e H7 hps hlen hp hq ep eq src7 b67 => ?_⟩
  obtain ⟨s3, er, em⟩ := read_loose rfl hR.r hO hR.few hR.nt hR.nb (e := e) hps
  refine ⟨p, _, _, _, rfl, rfl, SqT.of ep, rfl, .str (tx (loose ps e)), .str (tx (loose ps e)), rfl, .str _, .inr ⟨_, rfl, by rw [tx_len]; exact hlen, fun pp epp => (by rw [er] at epp; cases epp), fun s2 es2 => ?_⟩⟩
  rw [er] at es2
  injection es2 with es2
  subst es2
  refine ⟨Tr.marks 4 [] t, em, ⟨Tr.marks_diff hO [], by rw [Tr.marks_rows, List.length_map]; omega, let ⟨tl, e, _⟩ := Tr.marks_head 4 t []; ⟨_, tl, e, rfl⟩⟩, fun b D H8 hb hD BA g78 => ?_⟩
  rw [Tr.marks_sorted hO] at BA
  have b68 : But (· = S) H H8 := fun z o h n => g78 z o (b67 z o (g56 z o h id) n) id
  refine k b D H8 ?_ ⟨BA.ob, ⟨BA.ma, Tr.ok_srt _ _ hO, by rw [Tr.rows_srt _ _ hO]; omega, by decide⟩, by decide⟩ (SrcAt.but src7 g78) b68
  cases e : H b with
  | none => rfl
  | some o =>
    by_cases h : b = S
    · obtain ⟨c, st, n, es⟩ := src7
      rw [h, es] at hb
      cases hb
    · rw [b67 b o (g56 b o e id) h] at hb
      cases hb
/-- what stands on while only S changes -/
theorem BkTr.but {BK : Addr} {H H' : Hp} {b D S : Addr} {n : Nat} {t : Tr n} (h : BkTr BK H b D n t) (s : SrcAt H S) (g : But (· = S) H H') : BkTr BK H' b D n t := by
  obtain ⟨dx, e⟩ := h.ob
  obtain ⟨c, st, m, es⟩ := s
  refine ⟨⟨dx, g _ _ e (fun z => ?_)⟩, ⟨g _ _ h.ma.at_ (fun z => ?_), h.ma.ok, h.ma.few, h.ma.lv⟩, h.lv⟩
  · rw [z, es] at e; cases e
  · have := h.ma.at_
    rw [z, es] at this
    cases this
theorem But.src {H : Hp} {S : Addr} {o : HO} : But (· = S) H (upd H S o) := But.at (S := (· = S)) rfl
theorem Part.src {G H H' : Hp} {S : Addr} (p : Part G H) (h : G S = none) (g : But (· = S) H H') : Part G H' := p.but g fun b hb => by rw [hb]; exact h
theorem But.wk {S : Addr → Prop} {H H' : Hp} (g : But (fun _ => False) H H') : But S H H' := g.mono fun _ h => h.elim
theorem But.outer {S : Addr} {H0 H H' : Hp} (g : But (· = S) H H') (g0 : But (fun _ => False) H0 H) (hS : H0 S = none) : But (fun _ => False) H0 H' := fun z o h _ => g z o (g0 z o h id) (ne_of_none h hS)
/-- the heap within a law's turn: the source at S, the item within G, a book of t -/
structure Sta (BK : Addr) (H1 : Hp) (S : Addr) (G : Hp) (b D : Addr) (t : Tr 4) (H : Hp) : Prop where
  src : SrcAt H S
  pa : Part G H
  bt : BkTr BK H b D 4 (Tr.srt 4 t)
  g : But (fun _ => False) H1 H
theorem Sta.but {BK : Addr} {H1 : Hp} {S : Addr} {G : Hp} {b D : Addr} {t : Tr 4} {H H' : Hp} (h : Sta BK H1 S G b D t H) (gS : G S = none) (hS : H1 S = none) (g : But (· = S) H H') (s : SrcAt H' S) : Sta BK H1 S G b D t H' := ⟨s, h.pa.src gS g, h.bt.but h.src g, g.outer h.g hS⟩
theorem Sta.grow {BK : Addr} {H1 : Hp} {S : Addr} {G : Hp} {b D : Addr} {t : Tr 4} {H H' : Hp} (h : Sta BK H1 S G b D t H) (g : But (fun _ => False) H H') : Sta BK H1 S G b D t H' := ⟨SrcAt.but h.src g, h.pa.grow g, h.bt.grow g, h.g.trans g⟩
theorem ext_src {G H H' : Hp} {S : Addr} (s : SrcAt H S) (gS : G S = none) : ext G H H' S = none := by rw [ext_old (src_ne' s)]; exact gS
theorem Rdb.opp {t : Tr 4} (h : Rdb t) : Rdb (Tr.opp 4 t) := ⟨Tr.right_opp h.r, Tr.ok_opp _ _ h.ok, Tr.few_opp _ _ h.few, by rw [Tr.nt_opp]; exact h.nt, by rw [Tr.nb_opp]; exact h.nb⟩
theorem Rdb.chg {t : Tr 4} (h : Rdb t) {p : List Str} {mk : Str} (f : Tr.Fit 4 t p mk) : Rdb (Tr.chg 4 t p mk) := ⟨Tr.right_chg h.r _ _, Tr.ok_chg _ _ _ _ h.ok f, Tr.few_chg _ _ _ _ h.few, by rw [Tr.nt_chg]; exact h.nt, by rw [Tr.nb_chg]; exact h.nb⟩
end L2.G42

set_option Elab.async false
set_option linter.all false
set_option maxRecDepth 100000
set_option maxHeartbeats 4000000
namespace L2.G42
open PySem PySem.Spec
theorem diff_inj {α : Type} {es : List (Str × α)} (h : DiffBy (·.1) es) {a b : Str × α} (ha : a ∈ es) (hb : b ∈ es) (e : a.1 = b.1) : a = b := by
  induction es with
  | nil => cases ha
  | cons y es ih =>
    obtain ⟨h1, h2⟩ := List.pairwise_cons.mp h
    rcases List.mem_cons.mp ha with rfl | ha'
    · rcases List.mem_cons.mp hb with rfl | hb
      · rfl
      · exact absurd e (h1 b hb)
    · rcases List.mem_cons.mp hb with rfl | hb
      · exact absurd e.symm (h1 a ha')
      · exact ih h2 ha' hb
namespace Tr
theorem mark_srt : ∀ (n : Nat) (t : Tr n), mark n (srt n t) = mark n t := by
  refine ind (fun n k => by rw [srt_bag]) (fun n m es ih => ?_)
  rw [srt_tab, mark_tab, mark_tab]
theorem fit_left {n : Nat} {t : Tr n} (h : t.isLeft = true) {mk : Str} (hm : mk ∈ kinds) : Fit n t [] mk := by
  cases t with
  | inl k => cases n <;> exact hm
  | inr x => cases h
theorem fit_right {n : Nat} {t : Tr n} (h : t.isLeft = false) {mk : Str} (hm : mk ∈ modes) : Fit n t [] mk := by
  cases t with
  | inl k => cases h
  | inr x =>
    cases n with
    | zero => exact nomatch x
    | succ n => exact hm
theorem row_at : ∀ (n : Nat) (t : Tr n), Ok n t → ∀ q, ∀ r ∈ lrows n q t, ∃ p, r.pl = q ++ p ∧ At n t p ∧ (r.t.isLeft = true → ∀ mk ∈ kinds, Fit n t p mk) ∧ (r.t.isLeft = false → ∀ mk ∈ modes, Fit n t p mk) := by
  refine ind (fun n k h q r hr => ?_) (fun n m es ih ho q r hr => ?_)
  · rw [lrows_bag] at hr
    rw [List.mem_singleton.mp hr]
    exact ⟨[], (List.append_nil _).symm, by rw [at_nil]; trivial, fun h mk hm => fit_left h hm, fun h => by cases h⟩
  · rw [lrows_tab] at hr
    rcases List.mem_cons.mp hr with e1 | hr
    · rw [e1]
      exact ⟨[], (List.append_nil _).symm, by rw [at_nil]; trivial, (fun h => by cases h), fun h mk hm => fit_right h hm⟩
    · obtain ⟨y, hy, hr⟩ := List.mem_flatMap.mp hr
      have hy' := srtBy_mem.mp hy
      obtain ⟨p, h1, h2, h3, h4⟩ := ih y hy' (ho.2.2.2 y hy').2 _ r hr
      refine ⟨y.1 :: p, by rw [h1, List.append_assoc]; rfl, by rw [at_tab]; exact ⟨y, hy', rfl, h2⟩, fun h mk hm => ?_, fun h mk hm => ?_⟩
      · rw [fit_tab1]
        intro e he ee
        rw [diff_inj ho.2.2.1 he hy' ee]
        exact h3 h mk hm
      · rw [fit_tab1]
        intro e he ee
        rw [diff_inj ho.2.2.1 he hy' ee]
        exact h4 h mk hm
theorem lrow_mark {n : Nat} {t : Tr n} (ho : Ok n t) {r : Row} (hr : r ∈ lrows n [] t) : (r.pl, mark r.k r.t) ∈ marks n [] (srt n t) := by
  rw [marks_rows, rows_of_srt n t ho []]
  refine List.mem_map.mpr ⟨r.srt, List.mem_map.mpr ⟨r, hr, rfl⟩, ?_⟩
  show (r.pl, mark r.k (srt r.k r.t)) = _
  rw [mark_srt]
theorem filter_flat {α β : Type} (f : α → List β) (p : β → Bool) : ∀ l : List α, (l.flatMap f).filter p = l.flatMap fun x => (f x).filter p
  | [] => rfl
  | x :: l => by rw [List.flatMap_cons, List.flatMap_cons, List.filter_append, filter_flat f p l]
theorem bags_nb : ∀ (n : Nat) (t : Tr n), Ok n t → ∀ p, ((rows n p t).filter fun r => kinds.contains (mark r.k r.t)).length = nb n t := by
  refine ind (fun n k h p => ?_) (fun n m es ih ho p => ?_)
  · rw [rows_bag, nb_bag]
    rw [ok_bag] at h
    have : kinds.contains (mark n (bag (n := n) k)) = true := by rw [mark_bag]; exact List.contains_iff_mem.mpr h
    rw [List.filter_cons_of_pos (by exact this)]
    rfl
  · rw [rows_tab, nb_tab, List.filter_cons_of_neg (by show ¬ kinds.contains (mark (n + 1) (tab m es)) = true; rw [mark_tab, kinds_not ho.1]; exact Bool.false_ne_true), filter_flat, len_flatMap]
    congr 1
    exact List.map_congr_left fun e he => ih e he (ho.2.2.2 e he).2 _
end Tr
theorem lrow_so {t : Tr 4} (ho : Tr.Ok 4 t) {r : Row} (hr : r ∈ Tr.lrows 4 [] t) : SoAll r.pl := by
  have h := Tr.so_marks 4 (Tr.srt 4 t) (Tr.ok_srt 4 t ho) [] (fun x hx => by cases hx)
  exact h _ (Tr.lrow_mark ho hr)
theorem ne_pl {K : PySem.W.Frag} {H : Hp} {L L2 : Addr} {zs ys : List V} {ps : List (List Str)} {Q : VK} (h1 : SqL K H L zs) (h2 : SqL K H L2 ys) (p1 : PlAt H zs ps) (p2 : PlAt H ys ps) (so : ∀ p ∈ ps, SoAll p) (k : Q (.bl false) H) : rNeD K (.ref L) (.ref L2) H Q :=
  ⟨dPl ps, dPl ps, .lst h1 (dp_pl p1), .lst h2 (dp_pl p2), shaped_pl so, shaped_pl so, by rw [eqv_pl]; exact k⟩
theorem plGrow {H H' : Hp} (g : But (fun _ => False) H H') {vs : List V} {ps : List (List Str)} (h : PlAt H vs ps) : PlAt H' vs ps := PlAt.grow (S := fun _ => False) (fun _ h => h.elim) g h
theorem bag_D {K : PySem.W.Frag} {H : Hp} {n : Nat} {t : Tr n} {ex : V} (hb : t.isLeft = true) (hd : Dp K H ex (Tr.dat n t)) : ex = .str (Tr.mark n t) := by
  cases t with
  | inl k =>
    rw [show Tr.mark n (Sum.inl k) = k from Tr.mark_bag]
    exact dat_bag_inv hd
  | inr x => cases hb
theorem tab_D {K : PySem.W.Frag} {H : Hp} {n : Nat} {t : Tr n} {ex : V} (hb : t.isLeft = false) (hd : Dp K H ex (Tr.dat n t)) : ∃ a0 y, ex = .ref a0 ∧ SqL K H a0 [.str (Tr.mark n t), y] := by
  cases n with
  | zero =>
    obtain ⟨kd, rfl⟩ := Tr.tr_zero t
    cases hb
  | succ k =>
    rcases Tr.tr_cases t with ⟨kd, rfl⟩ | ⟨m, es, rfl⟩
    · cases hb
    · obtain ⟨a0, a1, evs, rfl, s0, s1, da⟩ := dat_tab_inv hd
      exact ⟨a0, .ref a1, rfl, s0⟩
theorem mark_in {n : Nat} {t : Tr n} (ho : Tr.Ok n t) : (t.isLeft = true → Tr.mark n t ∈ kinds) ∧ (t.isLeft = false → Tr.mark n t ∈ modes) := by
  cases t with
  | inl k =>
    refine ⟨fun _ => ?_, fun h => by cases h⟩
    rw [show Tr.mark n (Sum.inl k) = k from Tr.mark_bag]
    cases n <;> exact ho
  | inr x =>
    cases n with
    | zero => exact nomatch x
    | succ n => exact ⟨fun h => (nomatch h), fun _ => ho.1⟩
/-- the first key replaced by a new one -/
theorem fresh_tree {m fr : Str} {e0 : Str × Tr 3} {es : List (Str × Tr 3)} (h : Rdb (Tr.tab m (e0 :: es))) (hk : isKey fr = true) (hf : fr ∉ (e0 :: es).map (·.1)) :
    Rdb (Tr.tab m ((fr, e0.2) :: es)) ∧ eqMs (Tr.marks 4 [] (Tr.srt 4 (Tr.tab m (e0 :: es)))) (Tr.marks 4 [] (Tr.srt 4 (Tr.tab m ((fr, e0.2) :: es)))) = false ∧ Tr.nb 4 (Tr.tab m ((fr, e0.2) :: es)) = Tr.nb 4 (Tr.tab m (e0 :: es)) := by
  obtain ⟨hm, ne, hd, hes⟩ := h.ok
  obtain ⟨h1, h2⟩ := List.pairwise_cons.mp hd
  have ok2 : Tr.Ok 4 (Tr.tab m ((fr, e0.2) :: es)) := by
    refine ⟨hm, by simp, List.pairwise_cons.mpr ⟨fun y hy e => hf ?_, h2⟩, fun e he => ?_⟩
    · rw [show fr = y.1 from e]
      exact List.mem_map.mpr ⟨y, List.mem_cons_of_mem _ hy, rfl⟩
    · rcases List.mem_cons.mp he with rfl | he
      · exact ⟨hk, (hes e0 List.mem_cons_self).2⟩
      · exact hes e (List.mem_cons_of_mem _ he)
  have rb2 : Rdb (Tr.tab m ((fr, e0.2) :: es)) := by
    refine ⟨rfl, ok2, ⟨h.few.1, fun e he => ?_⟩, h.nt, h.nb⟩
    rcases List.mem_cons.mp he with rfl | he
    · exact h.few.2 e0 List.mem_cons_self
    · exact h.few.2 e (List.mem_cons_of_mem _ he)
  refine ⟨rb2, ?_, rfl⟩
  have m1 : ([e0.1], Tr.mark 3 e0.2) ∈ Tr.marks 4 [] (Tr.srt 4 (Tr.tab m (e0 :: es))) := by
    refine ((Tr.marks_srt 4 _ h.ok []).1.mem_iff).mpr ?_
    rw [Tr.marks_tab]
    refine List.mem_cons_of_mem _ (List.mem_flatMap.mpr ⟨e0, List.mem_cons_self, ?_⟩)
    obtain ⟨tl, e, _⟩ := Tr.marks_head 3 e0.2 ([] ++ [e0.1])
    rw [e]
    exact List.mem_cons_self
  refine eqMs_other m1 ?_
  rw [val_not]
  · intro e; cases e
  · intro q hq e
    have e := kp_inj e
    have hq := ((Tr.marks_srt 4 _ ok2 []).1.mem_iff).mp hq
    rw [Tr.marks_tab] at hq
    rcases List.mem_cons.mp hq with rfl | hq
    · cases e
    · obtain ⟨y, hy, hq⟩ := List.mem_flatMap.mp hq
      obtain ⟨r, er⟩ := Tr.marks_pre 3 y.2 _ q hq
      rw [er] at e
      have e1 : y.1 = e0.1 := by
        have : [] ++ [y.1] ++ r = y.1 :: r := rfl
        rw [this] at e
        injection e
      rcases List.mem_cons.mp hy with rfl | hy
      · exact hf (by rw [show fr = e0.1 from e1]; exact List.mem_cons_self)
      · exact h1 y hy e1.symm
theorem abcd_key : ∀ x ∈ (["a", "b", "c", "d"] : List Str), isKey x = true := by decide +kernel
/-- one of four is not among three -/
theorem fresh_of {ks : List Str} (h : ks.length ≤ 3) : ∃ x r, (["a", "b", "c", "d"] : List Str).filter (fun x => !ks.contains x) = x :: r := by
  cases e : (["a", "b", "c", "d"] : List Str).filter (fun x => !ks.contains x) with
  | cons x r => exact ⟨x, r, rfl⟩
  | nil =>
    exfalso
    have h1 : ∀ x ∈ (["a", "b", "c", "d"] : List Str), x ∈ ks := fun x hx => by
      have := List.filter_eq_nil_iff.mp e x hx
      simpa using this
    have nd : (["a", "b", "c", "d"] : List Str).Nodup := by decide +kernel
    have := List.Nodup.length_le_of_subset nd h1
    simp at this
    omega
end L2.G42
namespace L2.G42
open PySem
theorem kit_no {K : PySem.W.Frag} {t : String} {N : Addr} (h1 : PySem.W.subIn K (.type t) (.ref N) = some false) (h2 : PySem.W.isClsIn K N = true) (h3 : PySem.W.typeIn K (.ref N) = some (.type "type")) : PySem.W.kitOne K (.type t) (.ref N) = some false := by
  unfold PySem.W.kitOne
  have h2' : (PySem.W.clsIn K N).isSome = true := h2
  rw [if_neg (by simp)]
  show (if ((PySem.W.clsIn K N).isSome && PySem.W.typeIn K (.ref N) == some (.type "type")) = true then PySem.W.subIn K (.type t) (.ref N) else none) = some false
  rw [h2', h3, if_pos (by rfl), h1]
end L2.G42

set_option Elab.async false
set_option linter.all false
set_option maxRecDepth 100000
set_option maxHeartbeats 8000000
set_option pp.maxSteps 60
set_option pp.deepTerms false
set_option pp.deepTerms.threshold 6
namespace K71
open PySem L2 L2.G42
theorem exm_self {K : PySem.W.Frag} {S : Addr} (h1 : PySem.W.subIn K (.ref S) (.type "BaseException") = some true) (h2 : PySem.W.isClsIn K S = true) (h3 : PySem.W.typeIn K (.ref S) = some (.type "type")) (h4 : PySem.W.subIn K (.ref S) (.ref S) = some true) :
    PySem.W.exmOne K (.ref S) (.ref S) = some true := by
  have h2' : (PySem.W.clsIn K S).isSome = true := h2
  unfold PySem.W.exmOne
  rw [h1, if_pos (by rfl)]
  show (if ((PySem.W.clsIn K S).isSome && PySem.W.typeIn K (.ref S) == some (.type "type")) = true then PySem.W.subIn K (.ref S) (.ref S) else none) = some true
  rw [h2', h3, if_pos (by rfl), h4]
theorem kit_bt {K : PySem.W.Frag} {C : Addr} {T : String} {b : Bool} (h : PySem.W.subIn K (.ref C) (.type T) = some b) (hm : PySem.W.kitMeta T = true) : PySem.W.kitOne K (.ref C) (.type T) = some b := by
  unfold PySem.W.kitOne
  rw [if_neg (by simp)]
  show (if PySem.W.kitMeta T = true then PySem.W.subIn K (.ref C) (.type T) else none) = some b
  rw [if_pos hm, h]
theorem kit_rr {K : PySem.W.Frag} {C N : Addr} {b : Bool} (hs : PySem.W.subIn K (.ref C) (.ref C) = some true) (h : PySem.W.subIn K (.ref C) (.ref N) = some b) (h2 : PySem.W.isClsIn K N = true) (h3 : PySem.W.typeIn K (.ref N) = some (.type "type")) : PySem.W.kitOne K (.ref C) (.ref N) = some b := by
  have h2' : (PySem.W.clsIn K N).isSome = true := h2
  unfold PySem.W.kitOne
  by_cases e : C = N
  · subst e
    rw [hs] at h
    injection h with h
    rw [if_pos (by simp), h]
  · rw [if_neg (by simp; exact fun z => e z)]
    show (if ((PySem.W.clsIn K N).isSome && PySem.W.typeIn K (.ref N) == some (.type "type")) = true then PySem.W.subIn K (.ref C) (.ref N) else none) = some b
    rw [h2', h3, if_pos (by rfl), h]
theorem kit_self {K : PySem.W.Frag} {B : Value} : PySem.W.kitOne K B B = some true := by
  unfold PySem.W.kitOne
  rw [if_pos (by simp)]
theorem all_mk {l : PySem.W.OpenLaw} {w : World} {K : PySem.W.Frag} {h : Heap} {mg : Str → Option Value} {fa : Addr} (X : K.In h) (G : h.Ns mainGlobals mg) (hfa : mg "law" = some (.ref fa))
    {fBadG fIsKey fPlT fGInit fGRead fGStr fGEq fPlOf fPot fDraw fOf fWord fKept fLKey fLRead fRefd fFits fSpoilt fRight fLaw dTGInit dDGInit : Addr} {odBadG anBadG odIsKey anIsKey odPlT anPlT odGInit anGInit odGRead anGRead odGStr anGStr odGEq anGEq odPlOf anPlOf odPot anPot odDraw anDraw odOf anOf odWord anWord odKept anKept odLKey anLKey odLRead anLRead odRefd anRefd odFits anFits odSpoilt anSpoilt odRight anRight odLaw anLaw : Option Addr} {slBadG slIsKey slPlT slGInit slGRead slGStr slGEq slPlOf slPot slDraw slOf slWord slKept slLKey slLRead slRefd slFits slSpoilt slRight slLaw : Array (Option Value)} {ocBadG dcBadG pmBadG cdBadG ctBadG kVBadG ocIsKey dcIsKey pmIsKey cdIsKey ctIsKey kVIsKey ocPlT dcPlT pmPlT cdPlT ctPlT kVPlT ocGInit dcGInit pmGInit cdGInit ctGInit ocGRead dcGRead pmGRead cdGRead ctGRead kVGRead ocGStr dcGStr pmGStr cdGStr ctGStr kVGStr ocGEq dcGEq pmGEq cdGEq ctGEq kVGEq ocPlOf dcPlOf pmPlOf cdPlOf ctPlOf kVPlOf ocPot dcPot pmPot cdPot ctPot kVPot ocDraw dcDraw pmDraw cdDraw ctDraw kVDraw ocOf dcOf pmOf cdOf ctOf kVOf ocWord dcWord pmWord cdWord ctWord kVWord ocKept dcKept pmKept cdKept ctKept kVKept ocLKey dcLKey pmLKey cdLKey ctLKey kVLKey ocLRead dcLRead pmLRead cdLRead ctLRead kVLRead ocRefd dcRefd pmRefd cdRefd ctRefd kVRefd ocFits dcFits pmFits cdFits ctFits kVFits ocSpoilt dcSpoilt pmSpoilt cdSpoilt ctSpoilt kVSpoilt ocRight dcRight pmRight cdRight ctRight kVRight ocLaw dcLaw pmLaw cdLaw ctLaw kVLaw : Value} {GL B NE pRead et : Addr} {restR : List Value} {tLE : Tok} {oT : Value} {oTd oEd : Option Addr} {nT nE : Nat} {slT slE : Array (Option Value)} {nmB qB : Str} {NB : Addr} {bsB subB : List Value} {snB : List Str} {abB : Bool} {colB : Option Bool} {ddB : Option Addr} {b_0 b_1 b_2 b_3 b_5 : Option Value} {tRES : Addr} {odRES : Option Addr} {nRES : Nat} {slRES : Array (Option Value)} {kRES0 kRES1 kRES2 kRES3 kRES4 kRES5 kRES6 kRES7 kRES8 kRES9 kRES10 kRES11 kRES12 kRES13 kRES14 kRES15 kRES16 kRES17 kRES18 : Tok} {tKIN : Addr} {odKIN : Option Addr} {nKIN : Nat} {slKIN : Array (Option Value)} {kKIN0 kKIN1 kKIN2 kKIN3 kKIN4 kKIN5 kKIN6 kKIN7 : Tok} {tSTA : Addr} {odSTA : Option Addr} {nSTA : Nat} {slSTA : Array (Option Value)} {kSTA0 kSTA1 kSTA2 kSTA3 kSTA4 : Tok}
    (aGL : PySem.W.nsIn K mainGlobals "Goal" = some (some (.ref GL)))
    (aB : PySem.W.nsIn K mainGlobals "BadGoal" = some (some (.ref B)))
    (aNE : PySem.W.nsIn K mainGlobals "NestedError" = some (some (.ref NE)))
    (aBadG : PySem.W.findIn K (.ref B) "__init__" = some (some (.ref fBadG))) (iBadG : PySem.W.isFn K (.ref fBadG) = true)
    (lBadG : K.lookup fBadG = some ⟨ocBadG, odBadG, .func (PySem.W.fnOf "__init__" "BadGoal.__init__" (defArgs sBadG) (defBody sBadG) (defScope sBadG) .none kVBadG dcBadG pmBadG anBadG cdBadG ctBadG), slBadG⟩) (cBadG : PySem.W.codeIn K cdBadG "BadGoal.__init__" = true) (kBadG : PySem.W.keepIn K (.ref fBadG) = true)
    (aIsKey : PySem.W.nsIn K mainGlobals "is_key" = some (some (.ref fIsKey)))
    (lIsKey : K.lookup fIsKey = some ⟨ocIsKey, odIsKey, .func (PySem.W.fnOf "is_key" "is_key" (defArgs sIsKey) (defBody sIsKey) (defScope sIsKey) .none kVIsKey dcIsKey pmIsKey anIsKey cdIsKey ctIsKey), slIsKey⟩) (cIsKey : PySem.W.codeIn K cdIsKey "is_key" = true) (kIsKey : PySem.W.keepIn K (.ref fIsKey) = true)
    (aPlT : PySem.W.nsIn K mainGlobals "place_text" = some (some (.ref fPlT)))
    (lPlT : K.lookup fPlT = some ⟨ocPlT, odPlT, .func (PySem.W.fnOf "place_text" "place_text" (defArgs sPlT) (defBody sPlT) (defScope sPlT) .none kVPlT dcPlT pmPlT anPlT cdPlT ctPlT), slPlT⟩) (cPlT : PySem.W.codeIn K cdPlT "place_text" = true) (kPlT : PySem.W.keepIn K (.ref fPlT) = true)
    (aGInit : PySem.W.findIn K (.ref GL) "__init__" = some (some (.ref fGInit))) (iGInit : PySem.W.isFn K (.ref fGInit) = true)
    (lGInit : K.lookup fGInit = some ⟨ocGInit, odGInit, .func (PySem.W.fnOf "__init__" "Goal.__init__" (defArgs sGInit) (defBody sGInit) (defScope sGInit) (.ref dTGInit) (.ref dDGInit) dcGInit pmGInit anGInit cdGInit ctGInit), slGInit⟩) (cGInit : PySem.W.codeIn K cdGInit "Goal.__init__" = true) (kGInit : PySem.W.keepIn K (.ref fGInit) = true)
    (lGRead : K.lookup fGRead = some ⟨ocGRead, odGRead, .func (PySem.W.fnOf "read" "Goal.read" (defArgs sGRead) (defBody sGRead) (defScope sGRead) .none kVGRead dcGRead pmGRead anGRead cdGRead ctGRead), slGRead⟩) (cGRead : PySem.W.codeIn K cdGRead "Goal.read" = true) (kGRead : PySem.W.keepIn K (.ref fGRead) = true)
    (aGStr : PySem.W.findIn K (.ref GL) "__str__" = some (some (.ref fGStr))) (iGStr : PySem.W.isFn K (.ref fGStr) = true)
    (lGStr : K.lookup fGStr = some ⟨ocGStr, odGStr, .func (PySem.W.fnOf "__str__" "Goal.__str__" (defArgs sGStr) (defBody sGStr) (defScope sGStr) .none kVGStr dcGStr pmGStr anGStr cdGStr ctGStr), slGStr⟩) (cGStr : PySem.W.codeIn K cdGStr "Goal.__str__" = true) (kGStr : PySem.W.keepIn K (.ref fGStr) = true)
    (aGEq : PySem.W.findIn K (.ref GL) "__eq__" = some (some (.ref fGEq))) (iGEq : PySem.W.isFn K (.ref fGEq) = true)
    (lGEq : K.lookup fGEq = some ⟨ocGEq, odGEq, .func (PySem.W.fnOf "__eq__" "Goal.__eq__" (defArgs sGEq) (defBody sGEq) (defScope sGEq) .none kVGEq dcGEq pmGEq anGEq cdGEq ctGEq), slGEq⟩) (cGEq : PySem.W.codeIn K cdGEq "Goal.__eq__" = true) (kGEq : PySem.W.keepIn K (.ref fGEq) = true)
    (aPlOf : PySem.W.nsIn K mainGlobals "place_of" = some (some (.ref fPlOf)))
    (lPlOf : K.lookup fPlOf = some ⟨ocPlOf, odPlOf, .func (PySem.W.fnOf "place_of" "place_of" (defArgs sPlOf) (defBody sPlOf) (defScope sPlOf) .none kVPlOf dcPlOf pmPlOf anPlOf cdPlOf ctPlOf), slPlOf⟩) (cPlOf : PySem.W.codeIn K cdPlOf "place_of" = true) (kPlOf : PySem.W.keepIn K (.ref fPlOf) = true)
    (aPot : PySem.W.nsIn K mainGlobals "_law_pot" = some (some (.ref fPot)))
    (lPot : K.lookup fPot = some ⟨ocPot, odPot, .func (PySem.W.fnOf "_law_pot" "_law_pot" (defArgs sPot) (defBody sPot) (defScope sPot) .none kVPot dcPot pmPot anPot cdPot ctPot), slPot⟩) (cPot : PySem.W.codeIn K cdPot "_law_pot" = true) (kPot : PySem.W.keepIn K (.ref fPot) = true)
    (aDraw : PySem.W.nsIn K mainGlobals "_law_draw" = some (some (.ref fDraw)))
    (lDraw : K.lookup fDraw = some ⟨ocDraw, odDraw, .func (PySem.W.fnOf "_law_draw" "_law_draw" (defArgs sDraw) (defBody sDraw) (defScope sDraw) .none kVDraw dcDraw pmDraw anDraw cdDraw ctDraw), slDraw⟩) (cDraw : PySem.W.codeIn K cdDraw "_law_draw" = true) (kDraw : PySem.W.keepIn K (.ref fDraw) = true)
    (aOf : PySem.W.nsIn K mainGlobals "_law_of" = some (some (.ref fOf)))
    (lOf : K.lookup fOf = some ⟨ocOf, odOf, .func (PySem.W.fnOf "_law_of" "_law_of" (defArgs sOf) (defBody sOf) (defScope sOf) .none kVOf dcOf pmOf anOf cdOf ctOf), slOf⟩) (cOf : PySem.W.codeIn K cdOf "_law_of" = true) (kOf : PySem.W.keepIn K (.ref fOf) = true)
    (aWord : PySem.W.nsIn K mainGlobals "_law_word" = some (some (.ref fWord)))
    (lWord : K.lookup fWord = some ⟨ocWord, odWord, .func (PySem.W.fnOf "_law_word" "_law_word" (defArgs sLWord) (defBody sLWord) (defScope sLWord) .none kVWord dcWord pmWord anWord cdWord ctWord), slWord⟩) (cWord : PySem.W.codeIn K cdWord "_law_word" = true) (kWord : PySem.W.keepIn K (.ref fWord) = true)
    (aKept : PySem.W.nsIn K mainGlobals "_law_kept" = some (some (.ref fKept)))
    (lKept : K.lookup fKept = some ⟨ocKept, odKept, .func (PySem.W.fnOf "_law_kept" "_law_kept" (defArgs sKept) (defBody sKept) (defScope sKept) .none kVKept dcKept pmKept anKept cdKept ctKept), slKept⟩) (cKept : PySem.W.codeIn K cdKept "_law_kept" = true) (kKept : PySem.W.keepIn K (.ref fKept) = true)
    (aLKey : PySem.W.nsIn K mainGlobals "_law_is_key" = some (some (.ref fLKey)))
    (lLKey : K.lookup fLKey = some ⟨ocLKey, odLKey, .func (PySem.W.fnOf "_law_is_key" "_law_is_key" (defArgs sLKey) (defBody sLKey) (defScope sLKey) .none kVLKey dcLKey pmLKey anLKey cdLKey ctLKey), slLKey⟩) (cLKey : PySem.W.codeIn K cdLKey "_law_is_key" = true) (kLKey : PySem.W.keepIn K (.ref fLKey) = true)
    (aLRead : PySem.W.nsIn K mainGlobals "_law_read" = some (some (.ref fLRead)))
    (lLRead : K.lookup fLRead = some ⟨ocLRead, odLRead, .func (PySem.W.fnOf "_law_read" "_law_read" (defArgs sLRead) (defBody sLRead) (defScope sLRead) .none kVLRead dcLRead pmLRead anLRead cdLRead ctLRead), slLRead⟩) (cLRead : PySem.W.codeIn K cdLRead "_law_read" = true) (kLRead : PySem.W.keepIn K (.ref fLRead) = true)
    (aRefd : PySem.W.nsIn K mainGlobals "_law_refused" = some (some (.ref fRefd)))
    (lRefd : K.lookup fRefd = some ⟨ocRefd, odRefd, .func (PySem.W.fnOf "_law_refused" "_law_refused" (defArgs sRefd) (defBody sRefd) (defScope sRefd) .none kVRefd dcRefd pmRefd anRefd cdRefd ctRefd), slRefd⟩) (cRefd : PySem.W.codeIn K cdRefd "_law_refused" = true) (kRefd : PySem.W.keepIn K (.ref fRefd) = true)
    (aFits : PySem.W.nsIn K mainGlobals "_law_fits" = some (some (.ref fFits)))
    (lFits : K.lookup fFits = some ⟨ocFits, odFits, .func (PySem.W.fnOf "_law_fits" "_law_fits" (defArgs sFits) (defBody sFits) (defScope sFits) .none kVFits dcFits pmFits anFits cdFits ctFits), slFits⟩) (cFits : PySem.W.codeIn K cdFits "_law_fits" = true) (kFits : PySem.W.keepIn K (.ref fFits) = true)
    (aSpoilt : PySem.W.nsIn K mainGlobals "_law_spoilt" = some (some (.ref fSpoilt)))
    (lSpoilt : K.lookup fSpoilt = some ⟨ocSpoilt, odSpoilt, .func (PySem.W.fnOf "_law_spoilt" "_law_spoilt" (defArgs sSpoilt) (defBody sSpoilt) (defScope sSpoilt) .none kVSpoilt dcSpoilt pmSpoilt anSpoilt cdSpoilt ctSpoilt), slSpoilt⟩) (cSpoilt : PySem.W.codeIn K cdSpoilt "_law_spoilt" = true) (kSpoilt : PySem.W.keepIn K (.ref fSpoilt) = true)
    (aRight : PySem.W.nsIn K mainGlobals "_law_right" = some (some (.ref fRight)))
    (lRight : K.lookup fRight = some ⟨ocRight, odRight, .func (PySem.W.fnOf "_law_right" "_law_right" (defArgs sRight) (defBody sRight) (defScope sRight) .none kVRight dcRight pmRight anRight cdRight ctRight), slRight⟩) (cRight : PySem.W.codeIn K cdRight "_law_right" = true) (kRight : PySem.W.keepIn K (.ref fRight) = true)
    (aLaw : PySem.W.nsIn K mainGlobals "law" = some (some (.ref fLaw)))
    (lLaw : K.lookup fLaw = some ⟨ocLaw, odLaw, .func (PySem.W.fnOf "law" "law" (defArgs sLaw) (defBody sLaw) (defScope sLaw) .none kVLaw dcLaw pmLaw anLaw cdLaw ctLaw), slLaw⟩) (cLaw : PySem.W.codeIn K cdLaw "law" = true) (kLaw : PySem.W.keepIn K (.ref fLaw) = true)
    (glpg : PySem.W.plainGet K GL Str.empty = true)
    (glhd : PySem.W.hasDictIn K GL = true)
    (glpo : PySem.W.plainOver K GL = true)
    (glsa : PySem.W.findIn K (.ref GL) "__setattr__" = some (some (.builtin "object.__setattr__")))
    (glmk : PySem.W.makesIn K GL = true)
    (glkc : PySem.W.keepIn K (.ref GL) = true)
    (gln0 : PySem.W.findIn K (.ref GL) "kind" = some none)
    (gln1 : PySem.W.findIn K (.ref GL) "place" = some none)
    (gln2 : PySem.W.findIn K (.ref GL) "at_end" = some none)
    (xB : K.lookup B = some (excClassObj nmB qB B NB bsB [.ref NE, .type "ValueError", .type "Exception", .type "BaseException", .type "object"] true snB subB abB colB ddB b_0 b_1 b_2 b_3 b_5 "ValueError.__new__"))
    (bsa : PySem.W.findIn K (.ref B) "__setattr__" = some (some (.builtin "object.__setattr__")))
    (bga : PySem.W.findIn K (.ref B) "__getattribute__" = some (some (.builtin "BaseException.__getattribute__")))
    (bgg : PySem.W.findIn K (.ref B) "__getattr__" = some none)
    (btI : PySem.W.typeIn K (.ref fBadG) = some (.type "function"))
    (bk : PySem.W.keepIn K (.ref B) = true)
    (bex : PySem.W.subIn K (.ref B) (.type "BaseException") = some true)
    (bty : PySem.W.typeIn K (.ref B) = some (.type "type"))
    (bhd : PySem.W.hasDictIn K B = true)
    (bic : PySem.W.isClsIn K B = true)
    (bsS : PySem.W.subIn K (.ref B) (.ref B) = some true)
    (bno0 : PySem.W.findIn K (.ref B) "goal" = some none)
    (glcl : PySem.W.findIn K (.ref GL) "__class__" = some (some (.builtin "object.__class__")))
    (glob : PySem.W.mroIn K GL (.type "object") = some true)
    (bcl : PySem.W.findIn K (.ref B) "__class__" = some (some (.builtin "object.__class__")))
    (bob : PySem.W.mroIn K B (.type "object") = some true)
    (ocsp : PySem.W.specialIn K (.builtin "object.__class__") "__get__" = some (some (.builtin "getset_descriptor.__get__")))
    (octk : PySem.W.takesIn K (.builtin "object.__class__") = some true)
    (crd : PySem.W.readsIn K GL (.type "type") = true)
    (cga : PySem.W.specialIn K (.ref GL) "__getattribute__" = some (some (.builtin "type.__getattribute__")))
    (cvK : PySem.W.findCls K (.ref GL) (.type "type") "KINDS" = some (.val (.ref tKIN)))
    (cvS : PySem.W.findCls K (.ref GL) (.type "type") "STATES" = some (.val (.ref tSTA)))
    (cmA : PySem.W.findCls K (.ref GL) (.type "type") "read" = some (.get (.builtin "classmethod.__get__") (.ref pRead) .none (.ref GL)))
    (cmR : PySem.W.recIn K pRead "classmethod" = some (.ref fGRead :: restR))
    (cmF : PySem.W.fnIn K fGRead = true)
    (bsN : PySem.W.subIn K (.ref B) (.ref NE) = some true)
    (nic : PySem.W.isClsIn K NE = true)
    (nty : PySem.W.typeIn K (.ref NE) = some (.type "type"))
    (bsL : PySem.W.subIn K (.ref B) (.type "LookupError") = some false)
    (eqN : PySem.W.findIn K (.ref GL) "__ne__" = some (some (.builtin "object.__ne__")))
    (glic : PySem.W.isClsIn K GL = true)
    (glty : PySem.W.typeIn K (.ref GL) = some (.type "type"))
    (f_nStr : PySem.W.notFirst K GL (.type "str") = true)
    (f_nNon : PySem.W.notFirst K GL (.type "NoneType") = true)
    (o_nStr : PySem.W.subIn K (.type "str") (.ref GL) = some false)
    (o_nNon : PySem.W.subIn K (.type "NoneType") (.ref GL) = some false)
    (gLE : PySem.W.nsIn K mainGlobals "LETTERS" = some (some (.str "abcdefghijklmnopqrstuvwxyz" tLE)))
    (gRE : PySem.W.nsIn K mainGlobals "RESERVED" = some (some (.ref tRES)))
    (lRES : K.lookup tRES = some ⟨.type "tuple", odRES, .seq #[.str "add" kRES0, .str "back" kRES1, .str "clear" kRES2, .str "copy" kRES3, .str "def" kRES4, .str "either" kRES5, .str "end" kRES6, .str "for" kRES7, .str "in" kRES8, .str "kept" kRES9, .str "like" kRES10, .str "live" kRES11, .str "new" kRES12, .str "or" kRES13, .str "repeat" kRES14, .str "root" kRES15, .str "show" kRES16, .str "sync" kRES17, .str "use" kRES18] nRES, slRES⟩)
    (lKIN : K.lookup tKIN = some ⟨.type "tuple", odKIN, .seq #[.str "missing" kKIN0, .str "extra" kKIN1, .str "late" kKIN2, .str "held" kKIN3, .str "lost" kKIN4, .str "undone" kKIN5, .str "stays" kKIN6, .str "returns" kKIN7] nKIN, slKIN⟩)
    (lSTA : K.lookup tSTA = some ⟨.type "tuple", odSTA, .seq #[.str "missing" kSTA0, .str "extra" kSTA1, .str "late" kSTA2, .str "held" kSTA3, .str "lost" kSTA4] nSTA, slSTA⟩)
    (lT : K.lookup dTGInit = some ⟨oT, oTd, .seq #[.ref et] nT, slT⟩)
    (lE : K.lookup et = some ⟨.type "tuple", oEd, .seq #[] nE, slE⟩)
    (kD : PySem.W.nsIn K dDGInit "at_end" = some (some (.bool false)))
    (z_isinstance : PySem.W.nsIn K mainGlobals "isinstance" = some none)
    (z_int : PySem.W.nsIn K mainGlobals "int" = some none)
    (z_bool : PySem.W.nsIn K mainGlobals "bool" = some none)
    (z_list : PySem.W.nsIn K mainGlobals "list" = some none)
    (z_sorted : PySem.W.nsIn K mainGlobals "sorted" = some none)
    (z_len : PySem.W.nsIn K mainGlobals "len" = some none)
    (z_set : PySem.W.nsIn K mainGlobals "set" = some none)
    (z_range : PySem.W.nsIn K mainGlobals "range" = some none)
    (z_enumerate : PySem.W.nsIn K mainGlobals "enumerate" = some none)
    (z_max : PySem.W.nsIn K mainGlobals "max" = some none)
    (z_min : PySem.W.nsIn K mainGlobals "min" = some none)
    (z_abs : PySem.W.nsIn K mainGlobals "abs" = some none)
    (z_any : PySem.W.nsIn K mainGlobals "any" = some none)
    (z_all : PySem.W.nsIn K mainGlobals "all" = some none)
    (z_tuple : PySem.W.nsIn K mainGlobals "tuple" = some none)
    (z_str : PySem.W.nsIn K mainGlobals "str" = some none)
    (z_dict : PySem.W.nsIn K mainGlobals "dict" = some none)
    (z_repr : PySem.W.nsIn K mainGlobals "repr" = some none)
    (z_LookupError : PySem.W.nsIn K mainGlobals "LookupError" = some none)
    : ∃ fd : FuncData, (∀ (s : Shared) (v : Value), BindsTo s fd ⟨[v], []⟩ [("_law_script", v)]) ∧ ∀ base : Heap, K.In base → base.Ns mainGlobals mg → FnG l.prog w K mg base CX0 9 fa fd ["_law_script"] (spLaw K) := by
  have e := hfa.symm.trans (PySem.W.mg_of X G aLaw)
  cases e
  have T : Bn mg := ⟨PySem.W.mg_none_of X G z_isinstance, PySem.W.mg_none_of X G z_int, PySem.W.mg_none_of X G z_bool, PySem.W.mg_none_of X G z_list, PySem.W.mg_none_of X G z_sorted, PySem.W.mg_none_of X G z_len, PySem.W.mg_none_of X G z_set, PySem.W.mg_none_of X G z_range, PySem.W.mg_none_of X G z_enumerate, PySem.W.mg_none_of X G z_max, PySem.W.mg_none_of X G z_min, PySem.W.mg_none_of X G z_abs, PySem.W.mg_none_of X G z_any, PySem.W.mg_none_of X G z_all, PySem.W.mg_none_of X G z_tuple, PySem.W.mg_none_of X G z_str, PySem.W.mg_none_of X G z_dict, PySem.W.mg_none_of X G z_repr⟩
  have FBadG := fun_mk (st := sBadG) lBadG cBadG kBadG
  have FIsKey := fun_mk (st := sIsKey) lIsKey cIsKey kIsKey
  have FPlT := fun_mk (st := sPlT) lPlT cPlT kPlT
  have FGRead := fun_mk (st := sGRead) lGRead cGRead kGRead
  have FGStr := fun_mk (st := sGStr) lGStr cGStr kGStr
  have FGEq := fun_mk (st := sGEq) lGEq cGEq kGEq
  have FPlOf := fun_mk (st := sPlOf) lPlOf cPlOf kPlOf
  have FPot := fun_mk (st := sPot) lPot cPot kPot
  have FDraw := fun_mk (st := sDraw) lDraw cDraw kDraw
  have FOf := fun_mk (st := sOf) lOf cOf kOf
  have FWord := fun_mk (st := sLWord) lWord cWord kWord
  have FKept := fun_mk (st := sKept) lKept cKept kKept
  have FLKey := fun_mk (st := sLKey) lLKey cLKey kLKey
  have FLRead := fun_mk (st := sLRead) lLRead cLRead kLRead
  have FRefd := fun_mk (st := sRefd) lRefd cRefd kRefd
  have FFits := fun_mk (st := sFits) lFits cFits kFits
  have FSpoilt := fun_mk (st := sSpoilt) lSpoilt cSpoilt kSpoilt
  have FRight := fun_mk (st := sRight) lRight cRight kRight
  have FLaw := fun_mk (st := sLaw) lLaw cLaw kLaw
  have bBadG := FBadG.binds (ps := ["self", "goal"]) fun _ _ _ _ _ _ us hl => match us, hl with | [_, _], _ => rfl
  have bIsKey := FIsKey.binds (ps := ["word"]) fun _ _ _ _ _ _ us hl => match us, hl with | [_], _ => rfl
  have bPlT := FPlT.binds (ps := ["place"]) fun _ _ _ _ _ _ us hl => match us, hl with | [_], _ => rfl
  have bGRead := FGRead.binds (ps := ["cls", "text"]) fun _ _ _ _ _ _ us hl => match us, hl with | [_, _], _ => rfl
  have bGStr := FGStr.binds (ps := ["self"]) fun _ _ _ _ _ _ us hl => match us, hl with | [_], _ => rfl
  have bGEq := FGEq.binds (ps := ["self", "other"]) fun _ _ _ _ _ _ us hl => match us, hl with | [_, _], _ => rfl
  have bPlOf := FPlOf.binds (ps := ["text"]) fun _ _ _ _ _ _ us hl => match us, hl with | [_], _ => rfl
  have bPot := FPot.binds (ps := ["_law_script", "_law_at"]) fun _ _ _ _ _ _ us hl => match us, hl with | [_, _], _ => rfl
  have bDraw := FDraw.binds (ps := ["_law_pot_here", "_law_many"]) fun _ _ _ _ _ _ us hl => match us, hl with | [_, _], _ => rfl
  have bOf := FOf.binds (ps := ["_law_pot_here", "_law_some"]) fun _ _ _ _ _ _ us hl => match us, hl with | [_, _], _ => rfl
  have bWord := FWord.binds (ps := ["_law_pot_here"]) fun _ _ _ _ _ _ us hl => match us, hl with | [_], _ => rfl
  have bKept := FKept.binds (ps := []) fun _ _ _ _ _ _ us hl => match us, hl with | [], _ => rfl
  have bLKey := FLKey.binds (ps := ["_law_word_here"]) fun _ _ _ _ _ _ us hl => match us, hl with | [_], _ => rfl
  have bLRead := FLRead.binds (ps := ["_law_text"]) fun _ _ _ _ _ _ us hl => match us, hl with | [_], _ => rfl
  have bRefd := FRefd.binds (ps := ["_law_text"]) fun _ _ _ _ _ _ us hl => match us, hl with | [_], _ => rfl
  have bFits := FFits.binds (ps := ["_law_text"]) fun _ _ _ _ _ _ us hl => match us, hl with | [_], _ => rfl
  have bSpoilt := FSpoilt.binds (ps := ["_law_pot_here", "_law_text"]) fun _ _ _ _ _ _ us hl => match us, hl with | [_, _], _ => rfl
  have bRight := FRight.binds (ps := ["_law_pot_here"]) fun _ _ _ _ _ _ us hl => match us, hl with | [_], _ => rfl
  have N : KyN K mg := ⟨⟨tLE, PySem.W.mg_of X G gLE⟩, ⟨tRES, PySem.W.mg_of X G gRE, fun H => .inr ⟨_, _, _, lRES, rfl, rfl, (show 19 ≤ sizeLine by decide), .cons ⟨_, rfl⟩ (.cons ⟨_, rfl⟩ (.cons ⟨_, rfl⟩ (.cons ⟨_, rfl⟩ (.cons ⟨_, rfl⟩ (.cons ⟨_, rfl⟩ (.cons ⟨_, rfl⟩ (.cons ⟨_, rfl⟩ (.cons ⟨_, rfl⟩ (.cons ⟨_, rfl⟩ (.cons ⟨_, rfl⟩ (.cons ⟨_, rfl⟩ (.cons ⟨_, rfl⟩ (.cons ⟨_, rfl⟩ (.cons ⟨_, rfl⟩ (.cons ⟨_, rfl⟩ (.cons ⟨_, rfl⟩ (.cons ⟨_, rfl⟩ (.cons ⟨_, rfl⟩ (.nil)))))))))))))))))))⟩⟩⟩
  have Ox : OexC K B := ⟨⟨nmB, qB, NB, bsB, _, snB, subB, abB, colB, ddB, b_0, b_1, b_2, b_3, b_5, xB, (show PySem.HandSPX.refsVE [.type "ValueError", .type "Exception", .type "BaseException", .type "object"] = true by decide +kernel)⟩, bsa, bex, bty, bk⟩
  have Gc : GlC K GL := ⟨⟨glpg, glhd, glpo, glsa⟩, gln0, gln1, gln2⟩
  have Gk : GlK K GL (.type "type") := ⟨⟨crd, cga⟩, ⟨tKIN, ⟨cvK, rfl⟩, fun H => .inr ⟨_, _, _, lKIN, rfl, rfl, (show 8 ≤ sizeLine by decide), .cons ⟨_, rfl⟩ (.cons ⟨_, rfl⟩ (.cons ⟨_, rfl⟩ (.cons ⟨_, rfl⟩ (.cons ⟨_, rfl⟩ (.cons ⟨_, rfl⟩ (.cons ⟨_, rfl⟩ (.cons ⟨_, rfl⟩ (.nil))))))))⟩⟩, ⟨tSTA, ⟨cvS, rfl⟩, fun H => .inr ⟨_, _, _, lSTA, rfl, rfl, (show 5 ≤ sizeLine by decide), .cons ⟨_, rfl⟩ (.cons ⟨_, rfl⟩ (.cons ⟨_, rfl⟩ (.cons ⟨_, rfl⟩ (.cons ⟨_, rfl⟩ (.nil)))))⟩⟩⟩
  have Gy : BkTy K GL := ⟨Gc.cl, glcl, ocsp, octk, glob, kit_self⟩
  have X1 : GbT K mg B NE := ⟨PySem.W.mg_of X G aB, ⟨bga, bgg, bex, bhd⟩, ⟨bic, bga, bgg, bex, bcl, ocsp, octk, bob⟩, bno0, exm_self bex bic bty bsS, PySem.W.mg_of X G aNE, PySem.W.mg_none_of X G z_LookupError, kit_rr bsS bsN nic nty, kit_bt bsL (by decide +kernel)⟩
  have FGInit : FunD K "__init__" "Goal.__init__" (defArgs sGInit) (defBody sGInit) (defScope sGInit) [.ref et] [("at_end", .bl false)] fGInit _ :=
    ⟨⟨ocGInit, odGInit, _, _, _, _, _, _, _, slGInit, rfl, lGInit, cGInit, .inr ⟨by simp, dTGInit, _, [.ref et], nT, rfl, lT, rfl, .cons rfl .nil⟩, .inr ⟨dDGInit, rfl, fun q hq => by
      rw [List.mem_singleton.mp hq]
      exact ⟨_, kD, rfl⟩⟩⟩, kGInit⟩
  obtain ⟨dsI, vI, bI⟩ := FGInit.binds (ps := ["self", "kind", "place", "at_end"]) 2 0 (by simp) rfl (fun T D doc pm an cdv ct us its ks h1 h2 h3 => match us, h1, its, h2, ks, h3 with
    | [_, _], _, [_], _, [_], _ => ⟨_, rfl, ⟨_, _, _, _, _, _, rfl, rfl, rfl⟩⟩) (by simp)
  obtain ⟨itsI, kbI⟩ := FGInit.kbindsD (ps := ["self", "kind", "place", "at_end"]) 3 ["at_end"] (fun us _ ws => us ++ ws) (by simp) (fun r1 _ r3 => r1.append r3) (fun T kV doc pm an cdv ct us its ws h1 h2 h3 => match us, h1, its, h2, ws, h3 with
    | [_, _, _], _, [_], _, [_], _ => ⟨_, rfl, rfl⟩)
  refine ⟨PySem.W.fnOf "law" "law" (defArgs sLaw) (defBody sLaw) (defScope sLaw) .none kVLaw dcLaw pmLaw anLaw cdLaw ctLaw, fun s v => .of_eq rfl, fun base _ _ => ?_⟩
  have er : Er l.prog w K mg base 1 "BadGoal" B "goal" := ⟨⟨_, _, _, ok_badG FBadG Ox bno0, aBadG, btI, bBadG⟩, Ox, PySem.W.mg_of X G aB⟩
  have cKey : Cl l.prog w K mg base 1 "is_key" spIsKey [] := ⟨_, _, _, _, ok_isKey FIsKey T N, PySem.W.mg_of X G aIsKey, kIsKey, bIsKey, .nil⟩
  have cPlOf : Cl l.prog w K mg base 2 "place_of" spPlOf [] := ⟨_, _, _, _, ok_plOf FPlOf T cKey, PySem.W.mg_of X G aPlOf, kPlOf, bPlOf, .nil⟩
  have cPlT : Cl l.prog w K mg base 1 "place_text" (spPlT K) [] := ⟨_, _, _, _, ok_plT FPlT T, PySem.W.mg_of X G aPlT, kPlT, bPlT, .nil⟩
  have MI : Mk K GL fGInit := ⟨glmk, aGInit, iGInit, glkc⟩
  have OI := ok_ginit (P := l.prog) (w := w) (mg := mg) (base := base) FGInit Gc
  have M : GlM l.prog w K mg base GL et := ⟨fun H => .inr ⟨_, #[], _, lE, rfl, rfl, by decide, .nil⟩, ⟨fGInit, _, _, dsI, MI, OI, bI, vI⟩, ⟨fGInit, _, _, _, MI, OI, kbI⟩⟩
  have cRead : CmX l.prog w K mg base 3 GL (.type "type") "read" (spGRead K GL B) := ⟨_, _, _, _, Gk.rd, ⟨cmA, ⟨_, cmR⟩, cmF⟩, ok_gread FGRead T Gk er M cPlOf, bGRead⟩
  have cStr : Own1 l.prog w K mg base 2 GL "__str__" (spGStr K GL) := ⟨_, _, _, ok_gstr FGStr Gc cPlT, aGStr, iGStr, bGStr⟩
  have gl := PySem.W.mg_of X G aGL
  have oEq : OwnEq l.prog w K mg base 5 GL (spGEq K GL) := ⟨⟨_, _, _, ok_geq FGEq T Gy gl cStr, aGEq, iGEq, bGEq⟩, eqN, glob⟩
  have cPot : Cl l.prog w K mg base 1 "_law_pot" (spSource K) [] := ⟨_, _, _, _, ok_pot FPot T, PySem.W.mg_of X G aPot, kPot, bPot, .nil⟩
  have cDraw : Cl l.prog w K mg base 1 "_law_draw" spTake [] := ⟨_, _, _, _, ok_draw FDraw T, PySem.W.mg_of X G aDraw, kDraw, bDraw, .nil⟩
  have cOf : Cl l.prog w K mg base 2 "_law_of" (spOf K) [] := ⟨_, _, _, _, ok_of FOf T cDraw, PySem.W.mg_of X G aOf, kOf, bOf, .nil⟩
  have cOfS : Cl l.prog w K mg base 2 "_law_of" spOfS [] := ⟨_, _, _, _, ok_ofS FOf T cDraw, PySem.W.mg_of X G aOf, kOf, bOf, .nil⟩
  have cWord : Cl l.prog w K mg base 3 "_law_word" spLWord [] := ⟨_, _, _, _, ok_lword FWord T cDraw cOfS, PySem.W.mg_of X G aWord, kWord, bWord, .nil⟩
  have cKept : Cl l.prog w K mg base 1 "_law_kept" spKept [] := ⟨_, _, _, _, ok_kept FKept, PySem.W.mg_of X G aKept, kKept, bKept, .nil⟩
  have cLKey : Cl l.prog w K mg base 2 "_law_is_key" spIsKey [] := ⟨_, _, _, _, ok_lkey FLKey T cKept, PySem.W.mg_of X G aLKey, kLKey, bLKey, .nil⟩
  have cLRead : Cl l.prog w K mg base 3 "_law_read" (spLRead K) [] := ⟨_, _, _, _, ok_lread FLRead T Gk gl cLKey, PySem.W.mg_of X G aLRead, kLRead, bLRead, .nil⟩
  have cRefd : ClG l.prog w K mg base 4 "_law_refused" (spRefd K) [] := ⟨_, _, _, _, ok_refd FRefd T X1 gl cRead, PySem.W.mg_of X G aRefd, kRefd, bRefd, .nil⟩
  have cFits : ClG l.prog w K mg base 7 "_law_fits" spFits [] := ⟨_, _, _, _, ok_fits FFits T Gc Gy gl M cLRead cRead cRefd cStr oEq, PySem.W.mg_of X G aFits, kFits, bFits, .nil⟩
  have cSpoilt : Cl l.prog w K mg base 3 "_law_spoilt" spSpoilt [] := ⟨_, _, _, _, ok_spoilt FSpoilt T cDraw cOfS, PySem.W.mg_of X G aSpoilt, kSpoilt, bSpoilt, .nil⟩
  have cRight : ClG l.prog w K mg base 8 "_law_right" spRight [] := ⟨_, _, _, _, ok_right FRight T Gk Gy gl ⟨f_nStr, kit_no o_nStr glic glty⟩ ⟨f_nNon, kit_no o_nNon glic glty⟩ cDraw cOf cOfS cWord cKept cLRead cRead cRefd cFits cSpoilt oEq, PySem.W.mg_of X G aRight, kRight, bRight, .nil⟩
  exact ok_law FLaw T Gk gl cPot cRight
theorem walk {l : PySem.W.OpenLaw} {q : Program} {loose : List Str} {XP : (Str → Option Value) → Heap → Prop} {YP : World → Heap → Prop} {d : DefRec} {K : Params → PySem.W.Frag} (hn : l.most = some 63) (hdf : d.params.defaults = [])
    (hY : ∀ (w : World) (h : Heap), YP w h → (K w.params).In h)
    (F : ∀ (w : World) (mg : Str → Option Value) (fa : Addr) (h : Heap), (K w.params).In h → h.Ns mainGlobals mg → mg d.name = some (.ref fa) →
      ∃ fd : FuncData, (∀ (s : Shared) (u : Value), BindsTo s fd ⟨[u], []⟩ [("_law_script", u)]) ∧ ∀ base : Heap, (K w.params).In base → base.Ns mainGlobals mg → FnG l.prog w (K w.params) mg base CX0 9 fa fd ["_law_script"] (spLaw (K w.params))) :
    PySem.W.WalkO q loose XP YP l.row.toRowW d [] (fun f vs => PySem.call f vs) :=
  walk_ofG (n := 63) (k := 9) (x := "_law_script") (sp := fun w => spLaw (K w.params)) hn (by decide) hdf ⟨rfl, by decide, by decide⟩ hY F (fun _ _ a ns hl _ hS => ⟨a, ns, rfl, hS, hl, fun _ => rfl⟩)
end K71
open PySem PySem.W PyProof.Rows
set_option maxRecDepth 100000 in
set_option maxHeartbeats 0 in
theorem PySem.Challenge.cw_nestedwrites_k71_goals_read_and_written_holds : PySem.Challenge.rw_nestedwrites_k71_goals_read_and_written.Holds := by
  w_on; o_law; k_head; (case hw => w_witness2)
  k_fill
  refine K71.walk (l := PySem.Challenge.rw_nestedwrites_k71_goals_read_and_written) rfl rfl (fun w h Y => PySem.W.kIn_of Y) ?F
  case F =>
    intro w mg fa h KX G hmg
    refine' K71.all_mk KX G hmg ?aGL ?aB ?aNE ?aBadG ?iBadG ?lBadG ?cBadG ?kBadG ?aIsKey ?lIsKey ?cIsKey ?kIsKey ?aPlT ?lPlT ?cPlT ?kPlT ?aGInit ?iGInit ?lGInit ?cGInit ?kGInit ?lGRead ?cGRead ?kGRead ?aGStr ?iGStr ?lGStr ?cGStr ?kGStr ?aGEq ?iGEq ?lGEq ?cGEq ?kGEq ?aPlOf ?lPlOf ?cPlOf ?kPlOf ?aPot ?lPot ?cPot ?kPot ?aDraw ?lDraw ?cDraw ?kDraw ?aOf ?lOf ?cOf ?kOf ?aWord ?lWord ?cWord ?kWord ?aKept ?lKept ?cKept ?kKept ?aLKey ?lLKey ?cLKey ?kLKey ?aLRead ?lLRead ?cLRead ?kLRead ?aRefd ?lRefd ?cRefd ?kRefd ?aFits ?lFits ?cFits ?kFits ?aSpoilt ?lSpoilt ?cSpoilt ?kSpoilt ?aRight ?lRight ?cRight ?kRight ?aLaw ?lLaw ?cLaw ?kLaw ?glpg ?glhd ?glpo ?glsa ?glmk ?glkc ?gln0 ?gln1 ?gln2 ?xB ?bsa ?bga ?bgg ?btI ?bk ?bex ?bty ?bhd ?bic ?bsS ?bno0 ?glcl ?glob ?bcl ?bob ?ocsp ?octk ?crd ?cga ?cvK ?cvS ?cmA ?cmR ?cmF ?bsN ?nic ?nty ?bsL ?eqN ?glic ?glty ?f_nStr ?f_nNon ?o_nStr ?o_nNon ?gLE ?gRE ?lRES ?lKIN ?lSTA ?lT ?lE ?kD ?z_isinstance ?z_int ?z_bool ?z_list ?z_sorted ?z_len ?z_set ?z_range ?z_enumerate ?z_max ?z_min ?z_abs ?z_any ?z_all ?z_tuple ?z_str ?z_dict ?z_repr ?z_LookupError
    (case aGL => k_is)
    (case aB => k_is)
    (case aNE => k_is)
    (case aBadG => k_is)
    (case aIsKey => k_is)
    (case aPlT => k_is)
    (case aGInit => k_is)
    (case aGStr => k_is)
    (case aGEq => k_is)
    (case aPlOf => k_is)
    (case aPot => k_is)
    (case aDraw => k_is)
    (case aOf => k_is)
    (case aWord => k_is)
    (case aKept => k_is)
    (case aLKey => k_is)
    (case aLRead => k_is)
    (case aRefd => k_is)
    (case aFits => k_is)
    (case aSpoilt => k_is)
    (case aRight => k_is)
    (case aLaw => k_is)
    (case cmA => k_is)
    (case cmR => k_is)
    (case iBadG => k_is)
    (case lBadG => k_is)
    (case cBadG => k_is)
    (case kBadG => k_is)
    (case lIsKey => k_is)
    (case cIsKey => k_is)
    (case kIsKey => k_is)
    (case lPlT => k_is)
    (case cPlT => k_is)
    (case kPlT => k_is)
    (case iGInit => k_is)
    (case lGInit => k_is)
    (case cGInit => k_is)
    (case kGInit => k_is)
    (case lGRead => k_is)
    (case cGRead => k_is)
    (case kGRead => k_is)
    (case iGStr => k_is)
    (case lGStr => k_is)
    (case cGStr => k_is)
    (case kGStr => k_is)
    (case iGEq => k_is)
    (case lGEq => k_is)
    (case cGEq => k_is)
    (case kGEq => k_is)
    (case lPlOf => k_is)
    (case cPlOf => k_is)
    (case kPlOf => k_is)
    (case lPot => k_is)
    (case cPot => k_is)
    (case kPot => k_is)
    (case lDraw => k_is)
    (case cDraw => k_is)
    (case kDraw => k_is)
    (case lOf => k_is)
    (case cOf => k_is)
    (case kOf => k_is)
    (case lWord => k_is)
    (case cWord => k_is)
    (case kWord => k_is)
    (case lKept => k_is)
    (case cKept => k_is)
    (case kKept => k_is)
    (case lLKey => k_is)
    (case cLKey => k_is)
    (case kLKey => k_is)
    (case lLRead => k_is)
    (case cLRead => k_is)
    (case kLRead => k_is)
    (case lRefd => k_is)
    (case cRefd => k_is)
    (case kRefd => k_is)
    (case lFits => k_is)
    (case cFits => k_is)
    (case kFits => k_is)
    (case lSpoilt => k_is)
    (case cSpoilt => k_is)
    (case kSpoilt => k_is)
    (case lRight => k_is)
    (case cRight => k_is)
    (case kRight => k_is)
    (case lLaw => k_is)
    (case cLaw => k_is)
    (case kLaw => k_is)
    (case glpg => k_is)
    (case glhd => k_is)
    (case glpo => k_is)
    (case glsa => k_is)
    (case glmk => k_is)
    (case glkc => k_is)
    (case gln0 => k_is)
    (case gln1 => k_is)
    (case gln2 => k_is)
    (case xB => k_is)
    (case bsa => k_is)
    (case bga => k_is)
    (case bgg => k_is)
    (case btI => k_is)
    (case bk => k_is)
    (case bex => k_is)
    (case bty => k_is)
    (case bhd => k_is)
    (case bic => k_is)
    (case bsS => first | k_is | rfl | decide)
    (case bno0 => k_is)
    (case glcl => k_is)
    (case glob => k_is)
    (case bcl => k_is)
    (case bob => k_is)
    (case ocsp => k_is)
    (case octk => k_is)
    (case crd => k_is)
    (case cga => k_is)
    (case cvK => k_is)
    (case cvS => k_is)
    (case cmF => k_is)
    (case bsN => first | k_is | rfl | decide)
    (case nic => k_is)
    (case nty => k_is)
    (case bsL => k_is)
    (case eqN => k_is)
    (case glic => k_is)
    (case glty => k_is)
    (case f_nStr => k_is)
    (case f_nNon => k_is)
    (case o_nStr => k_is)
    (case o_nNon => k_is)
    (case gLE => k_is)
    (case gRE => k_is)
    (case lRES => k_is)
    (case lKIN => k_is)
    (case lSTA => k_is)
    (case lT => k_is)
    (case lE => k_is)
    (case kD => k_is)
    (case z_isinstance => k_is)
    (case z_int => k_is)
    (case z_bool => k_is)
    (case z_list => k_is)
    (case z_sorted => k_is)
    (case z_len => k_is)
    (case z_set => k_is)
    (case z_range => k_is)
    (case z_enumerate => k_is)
    (case z_max => k_is)
    (case z_min => k_is)
    (case z_abs => k_is)
    (case z_any => k_is)
    (case z_all => k_is)
    (case z_tuple => k_is)
    (case z_str => k_is)
    (case z_dict => k_is)
    (case z_repr => k_is)
    (case z_LookupError => k_is)
#print axioms PySem.Challenge.cw_nestedwrites_k71_goals_read_and_written_holds
