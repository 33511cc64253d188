import PyProof.Rows.All
import Wide.All
import OpenK.AllK
import Wide.FinOn
import KE.KOpsOwn
import HandS.ForMost
import HandS.More
import HandS.OwnEq
import HandS.SetFor
import HandS.Strs
import HandS.Defaults
import HandS.MakeKw
import HandS.DictComp
import HandS.IsInst
import HandS.SortInts
import HandS.Conv
import HandS.Wide
import HandS.Walk
import HandS.Style
import HandS.Flow
import HandS.EndBits
import HandS.Evl
import PyProof.ReprReads
import PyProof.ReprRoads
import HandS.Exc
import HandS.ExcOwn
import HandS.ExcInit
import HandS.ExcField
import HandS.ExcIs
import HandS.WordsExc
import KE.KExcIs
import HandS.Text
import HandS.Dict
import HandS.ClsMeth
import HandS.TupAny
import HandS.RaiseOp
import HandS.SortRule
import KE.LtSeq
import KE.KSortAsk
import KE.KCallOwn
import HandS.RaiseMore
import HandS.FStr
import PyProof.ListStr
import HandS.GenList
import PyProof.ForAny
import HandS.Iter
import KE.KEqDict
import KE.KDictKeyed
import KE.KExcInit
import PyProof.ExcBaseAll.LookupError
import PyProof.ExcBaseAll.RuntimeError
import HandS.CallRecv
import PySem.Challenge.RW_nestedwrites_k03_texts_refused
set_option Elab.async false
set_option linter.all false
set_option maxRecDepth 100000
set_option maxHeartbeats 4000000
namespace L2.G42
open PySem PySem.Spec PyProof.Rows
section
variable {X : Cx} {CX : CXT} {n : Nat} {C f : Addr} {fd : FuncData} {ps : List Str} {sp : Sp} {E : XK}
/-- an own method of two operands, by its promise -/
def rOwn2 (C : Addr) (sp : Sp) (E : XK) : R2 := fun x y H Q => ∃ a dx fs, x = .ref a ∧ H a = some (.ins C dx fs) ∧ sp [x, y] H Q E
theorem own_call {pins : List (Addr × Obj)} {s : Shared} {σ : St} {H : Hp} {x y : V} {u v : Value} {Q : VK} (F : FnOk X.prog X.w X.K X.mg X.base CX n f fd ps sp) (hb : Binds X.K fd ps []) (hr : Room n X.A) (hx : Passes CX X E)
    (I : Inv X pins σ H s) (rx : RelV x u) (ry : RelV y v) (hsp : sp [x, y] H Q E) :
    wpAny (model X.prog X.w) X.A (call (.ref f) [u, v]) (PySem.W.CmpBack (EP X pins σ Q)) X.xe s := by
  have hl := F.len _ _ _ _ hsp
  have r2 : Vals [x, y] [u, v] := .cons rx (.cons ry .nil)
  refine wpAny_call (codeAny_mono (F.run X.A X.stack s H ⟨[u, v], []⟩ [u, v] [x, y] _ E hr I.env0 (by
    have := hb s [u, v] I.kIn (by simpa using hl)
    simpa using this) r2 hsp) fun r s' hq => ?_)
  cases r with
  | error e => exact hx pins σ H s e s' I hq
  | ok fl =>
    cases fl with
    | ret w =>
      obtain ⟨z, H', I', rz, q⟩ := I.after hq
      have hz : EP X pins σ Q w s' := ⟨z, H', I', rz, q⟩
      cases z with
      | non => cases rz; exact hz
      | bl b => cases rz; exact hz
      | int i => obtain ⟨t, rfl⟩ := rz; exact hz
      | str i => obtain ⟨t, rfl⟩ := rz; exact hz
      | byt i => obtain ⟨t, rfl⟩ := rz; exact hz
      | flt i => obtain ⟨t, rfl⟩ := rz; exact hz
      | ref a => cases rz; exact hz
      | ty a => cases rz; exact hz
    | next => exact False.elim hq
    | brk => exact False.elim hq
    | cont => exact False.elim hq
theorem op_own {op : Operator} (F : FnOk X.prog X.w X.K X.mg X.base CX n f fd ps sp) (hs : PySem.W.findIn X.K (.ref C) (PySem.dunder op.info.2) = some (some (.ref f))) (hf : PySem.W.isFn X.K (.ref f) = true) (hc : PySem.W.selfFirst X.K C = true)
    (hb : Binds X.K fd ps []) (hr : Room n X.A) (hx : Passes CX X E) : OpR X (binaryOp op) (fun x y H Q => (∃ b dy gs, y = .ref b ∧ H b = some (.ins C dy gs)) ∧ rOwn2 C sp E x y H Q) := by
  intro pins s σ H x y u v Q I rx ry h
  obtain ⟨⟨b, dy, gs, rfl, hb'⟩, a, dx, fs, rfl, ha, hsp⟩ := h
  have rx' := rx
  have ry' := ry
  cases rx
  cases ry
  obtain ⟨mA, J, _⟩ := ins_get I.hok ha
  obtain ⟨mB, J', _⟩ := ins_get I.hok hb'
  obtain ⟨od, J, _⟩ := J.look
  obtain ⟨od', J', _⟩ := J'.look
  obtain ⟨m, hF⟩ := I.fr
  exact PySem.W.binop_K hF I.ok.mod.kin J J'.type hc hs hf (own_call F hb hr hx I rx' ry' hsp)
theorem iop_own {op : Operator} (F : FnOk X.prog X.w X.K X.mg X.base CX n f fd ps sp) (hs : PySem.W.findIn X.K (.ref C) (dunderI op.info.2) = some (some (.ref f))) (hf : PySem.W.isFn X.K (.ref f) = true) (hc : PySem.W.selfFirst X.K C = true)
    (hb : Binds X.K fd ps []) (hr : Room n X.A) (hx : Passes CX X E) : OpR X (inplaceOp op) (rOwn2 C sp E) := by
  intro pins s σ H x y u v Q I rx ry h
  obtain ⟨a, dx, fs, rfl, ha, hsp⟩ := h
  have rx' := rx
  cases rx
  obtain ⟨mA, J, _⟩ := ins_get I.hok ha
  obtain ⟨od, J, _⟩ := J.look
  obtain ⟨m, hF⟩ := I.fr
  exact PySem.W.ksp_inplace hF I.ok.mod.kin J hc hs hf (own_call F hb hr hx I rx' ry hsp)
end
end L2.G42

set_option Elab.async false
set_option linter.all false
set_option maxRecDepth 100000
set_option maxHeartbeats 4000000
namespace L2.G42
open PySem PySem.Spec PyProof.Rows
section
variable {M : Model} {prog : Program} {w : World} {A : Around} {E : Value → Shared → Prop} {s : Shared} {K : PySem.W.Frag} {x y C D : Addr} {ox oy : Obj} {od oe : Option Obj}
theorem inst_notup (I : PySem.W.InstAt s.heap x ox C od) : ox.cls ≠ .type "tuple" := by
  rw [I.cls]
  intro e
  cases e
/-- no == of its own -/
structure Plain (K : PySem.W.Frag) (C : Addr) : Prop where
  eq : PySem.W.findIn K (.ref C) "__eq__" = some (some (.builtin "object.__eq__"))
  ne : PySem.W.findIn K (.ref C) "__ne__" = some (some (.builtin "object.__ne__"))
  ob : PySem.W.mroIn K C (.type "object") = some true
theorem id_call_same {Q : Value → Shared → Prop} (X : K.In s.heap) (I : PySem.W.InstAt s.heap x ox C od) (P : Plain K C) (hq : Q (.bool true) s) :
    wpAny (model prog w) A (call (.builtin "object.__eq__") [.ref x, .ref x]) Q E s :=
  wpAny_call (codeAny_call_builtin F.cmp_object.eq.plain F.cmpEntry_eq (PySem.W.check_slot F.cmpKind_eq F.cmpSplit_eq (I.type.andThen (PySem.W.looks_mroIn X P.ob)) (F.cmpArgs_eq _ _) (objEq_entry_same hq)))
theorem id_call_other {Q : Value → Shared → Prop} (X : K.In s.heap) (I : PySem.W.InstAt s.heap x ox C od) (P : Plain K C) (hy : s.heap.get? y = some oy) (hxy : x ≠ y) (hq : Q .notImplemented s) :
    wpAny (model prog w) A (call (.builtin "object.__eq__") [.ref x, .ref y]) Q E s :=
  wpAny_call (codeAny_call_builtin F.cmp_object.eq.plain F.cmpEntry_eq (PySem.W.check_slot F.cmpKind_eq F.cmpSplit_eq (I.type.andThen (PySem.W.looks_mroIn X P.ob)) (F.cmpArgs_eq _ _) (objEq_entry_other hxy I.at_ hy (inst_notup I) hq)))
theorem ifBound_b {name : Str} {id : String} {args : List Value} {Q : Option Value → Shared → Prop} (S : Slot "object" name id) (X : K.In s.heap) (I : PySem.W.InstAt s.heap x ox C od) (hs : PySem.W.findIn K (.ref C) name = some (some (.builtin id)))
    (h : wpAny M A (call (.builtin id) (.ref x :: args)) (fun v => Q (some v)) E s) : wpAny M A (callSpecialIfBound? (.ref x) name args) Q E s := by
  simp only [callSpecialIfBound?, bindSpecialIfBound?]
  refine wpAny_holding (wpAny_bind (wpAny_bind (wpAny_bind (I.type.here ((PySem.W.looks_findIn X hs).here ?_)))))
  refine wpAny_bind (wpAny_askSetting (wpAny_ite ?_))
  have fin : wpAny M A (call (.builtin id) ([.ref x] ++ args) >>= fun v => pure (some v)) Q E s := wpAny_bind (wpAny_mono h (fun v s' h' => wpAny_pure h') fun _ _ h' => h')
  split
  · exact wpAny_bind (wpAny_of_eq (S.bind _) (wpAny_pure (by exact fin)))
  · exact wpAny_tryCatch (wpAny_bind (wpAny_of_eq (S.bind _) (wpAny_pure (by exact fin))))
theorem sp_same {Q : Option Value → Shared → Prop} (X : K.In s.heap) (I : PySem.W.InstAt s.heap x ox C od) (P : Plain K C) (hq : Q (some (.bool true)) s) :
    wpAny (model prog w) A (callSpecialIfBound? (.ref x) "__eq__" [.ref x]) Q E s := ifBound_b F.cmp_object.eq X I P.eq (id_call_same X I P hq)
theorem sp_other {Q : Option Value → Shared → Prop} (X : K.In s.heap) (I : PySem.W.InstAt s.heap x ox C od) (P : Plain K C) (hy : s.heap.get? y = some oy) (hxy : x ≠ y) (hq : Q (some .notImplemented) s) :
    wpAny (model prog w) A (callSpecialIfBound? (.ref x) "__eq__" [.ref y]) Q E s := ifBound_b F.cmp_object.eq X I P.eq (id_call_other X I P hy hxy hq)
theorem try_same {Q : Option Value → Shared → Prop} (X : K.In s.heap) (I : PySem.W.InstAt s.heap x ox C od) (P : Plain K C) (hq : Q (some (.bool true)) s) :
    wpAny (model prog w) A (tryCompare (.ref x) "__eq__" (.ref x)) Q E s := by
  simp only [tryCompare]
  exact wpAny_bind (sp_same X I P (wpAny_pure hq))
theorem try_other {Q : Option Value → Shared → Prop} (X : K.In s.heap) (I : PySem.W.InstAt s.heap x ox C od) (P : Plain K C) (hy : s.heap.get? y = some oy) (hxy : x ≠ y) (hq : Q none s) :
    wpAny (model prog w) A (tryCompare (.ref x) "__eq__" (.ref y)) Q E s := by
  simp only [tryCompare]
  exact wpAny_bind (sp_other X I P hy hxy (wpAny_pure hq))
theorem ne_entry_same (X : K.In s.heap) (I : PySem.W.InstAt s.heap x ox C od) (P : Plain K C) (hu : A.units < cLine) {Q : Fin → Shared → Prop} (hq : Q (.done (.ret (.bool false))) s) :
    wpAny (model prog w) A (Builtin.«object.__ne__» ⟨[.ref x, .ref x], []⟩) Q E s := by
  unfold Builtin.«object.__ne__»
  obtain ⟨h, g, d, t, os⟩ := s
  repeat (first | with_reducible refine wpAny_cRoomFor hu ?_ | with_reducible refine sp_same X I P ?_ | wp_step)
  exact hq
theorem ne_entry_other (X : K.In s.heap) (I : PySem.W.InstAt s.heap x ox C od) (P : Plain K C) (hy : s.heap.get? y = some oy) (hxy : x ≠ y) (hu : A.units < cLine) {Q : Fin → Shared → Prop} (hq : Q (.done (.ret .notImplemented)) s) :
    wpAny (model prog w) A (Builtin.«object.__ne__» ⟨[.ref x, .ref y], []⟩) Q E s := by
  unfold Builtin.«object.__ne__»
  obtain ⟨h, g, d, t, os⟩ := s
  repeat (first | with_reducible refine wpAny_cRoomFor hu ?_ | with_reducible refine sp_other X I P hy hxy ?_ | wp_step)
  exact hq
theorem tryn_same {Q : Option Value → Shared → Prop} (X : K.In s.heap) (I : PySem.W.InstAt s.heap x ox C od) (P : Plain K C) (hu : A.units + 1 < cLine) (hq : Q (some (.bool false)) s) :
    wpAny (model prog w) A (tryCompare (.ref x) "__ne__" (.ref x)) Q E s := by
  simp only [tryCompare]
  refine wpAny_bind (ifBound_b F.cmp_object.ne X I P.ne (wpAny_call (codeAny_call_builtin F.cmp_object.ne.plain F.cmpEntry_ne (PySem.W.check_slot F.cmpKind_ne F.cmpSplit_ne (I.type.andThen (PySem.W.looks_mroIn X P.ob)) (F.cmpArgs_ne _ _) (ne_entry_same (A := A.in1) X I P hu ?_)))))
  exact wpAny_pure hq
theorem tryn_other {Q : Option Value → Shared → Prop} (X : K.In s.heap) (I : PySem.W.InstAt s.heap x ox C od) (P : Plain K C) (hy : s.heap.get? y = some oy) (hxy : x ≠ y) (hu : A.units + 1 < cLine) (hq : Q none s) :
    wpAny (model prog w) A (tryCompare (.ref x) "__ne__" (.ref y)) Q E s := by
  simp only [tryCompare]
  refine wpAny_bind (ifBound_b F.cmp_object.ne X I P.ne (wpAny_call (codeAny_call_builtin F.cmp_object.ne.plain F.cmpEntry_ne (PySem.W.check_slot F.cmpKind_ne F.cmpSplit_ne (I.type.andThen (PySem.W.looks_mroIn X P.ob)) (F.cmpArgs_ne _ _) (ne_entry_other (A := A.in1) X I P hy hxy hu ?_)))))
  exact wpAny_pure hq
/-- neither type is first -/
theorem first_no {α : Type} {ta tb : Value} {k : Bool → Sem α} {Q : α → Shared → Prop} (X : K.In s.heap) (hn : ta = tb ∨ PySem.W.subIn K tb ta = some false) (hq : wpAny M A (k false) Q E s) :
    wpAny M A (if ta != tb then isSubtype tb ta >>= k else pure false >>= k) Q E s := by
  by_cases h : ta = tb
  · subst h
    rw [if_neg (by simp)]
    exact wpAny_bind (wpAny_pure hq)
  · rw [if_pos (by simp [h])]
    rcases hn with e | e
    · exact absurd e h
    · exact wpAny_bind ((PySem.W.looks_subIn X e).here hq)
theorem rc_eq_same {Q : Value → Shared → Prop} (X : K.In s.heap) (I : PySem.W.InstAt s.heap x ox C od) (P : Plain K C) (hu : A.units < cLine) (hq : Q (.bool true) s) :
    wpAny (model prog w) A (richCompare .Eq (.ref x) (.ref x)) Q E s := by
  simp only [richCompare, cmpInfo_Eq, oneThing_ref]
  refine wpAny_holding (wpAny_bind (wpAny_cRoomFor hu ?_))
  refine wpAny_bind (I.type.here (wpAny_bind (I.type.here (first_no X (.inl rfl) ?_))))
  simp only [Bool.false_eq_true, if_false, Bool.not_false, if_true]
  exact wpAny_bind (try_same X I P (wpAny_pure hq))
theorem rc_ne_same {Q : Value → Shared → Prop} (X : K.In s.heap) (I : PySem.W.InstAt s.heap x ox C od) (P : Plain K C) (hu : A.units + 1 < cLine) (hq : Q (.bool false) s) :
    wpAny (model prog w) A (richCompare .NotEq (.ref x) (.ref x)) Q E s := by
  simp only [richCompare, cmpInfo_NotEq, oneThing_ref]
  refine wpAny_holding (wpAny_bind (wpAny_cRoomFor (Nat.lt_of_succ_lt hu) ?_))
  refine wpAny_bind (I.type.here (wpAny_bind (I.type.here (first_no X (.inl rfl) ?_))))
  simp only [Bool.false_eq_true, if_false, Bool.not_false, if_true]
  exact wpAny_bind (tryn_same X I P hu (wpAny_pure hq))
/-- the other one says nothing -/
theorem rc_eq_other {tb : Value} {Q : Value → Shared → Prop} (X : K.In s.heap) (I : PySem.W.InstAt s.heap x ox C od) (P : Plain K C) (hy : s.heap.get? y = some oy) (hxy : x ≠ y) (hT : PySem.W.Looks (model prog w) s.heap (typeOf (.ref y)) tb)
    (hn : (.ref C) = tb ∨ PySem.W.subIn K tb (.ref C) = some false) (back : ∀ Q' : Option Value → Shared → Prop, Q' none s → wpAny (model prog w) A (tryCompare (.ref y) "__eq__" (.ref x)) Q' E s) (hu : A.units < cLine) (hq : Q (.bool false) s) :
    wpAny (model prog w) A (richCompare .Eq (.ref x) (.ref y)) Q E s := by
  simp only [richCompare, cmpInfo_Eq, oneThing_ref]
  refine wpAny_holding (wpAny_bind (wpAny_cRoomFor hu ?_))
  refine wpAny_bind (I.type.here (wpAny_bind (hT.here (first_no X hn ?_))))
  simp only [Bool.false_eq_true, if_false, Bool.not_false, if_true]
  refine wpAny_bind (try_other X I P hy hxy ?_)
  refine wpAny_bind (back _ ?_)
  exact wpAny_bind (wpAny_rule (wpAny_bind (wpAny_isSame_ref_other hxy I.at_ hy (inst_notup I) (wpAny_pure hq))))
theorem rc_ne_other {tb : Value} {Q : Value → Shared → Prop} (X : K.In s.heap) (I : PySem.W.InstAt s.heap x ox C od) (P : Plain K C) (hy : s.heap.get? y = some oy) (hxy : x ≠ y) (hT : PySem.W.Looks (model prog w) s.heap (typeOf (.ref y)) tb)
    (hn : (.ref C) = tb ∨ PySem.W.subIn K tb (.ref C) = some false) (back : ∀ Q' : Option Value → Shared → Prop, Q' none s → wpAny (model prog w) A (tryCompare (.ref y) "__ne__" (.ref x)) Q' E s) (hu : A.units + 1 < cLine) (hq : Q (.bool true) s) :
    wpAny (model prog w) A (richCompare .NotEq (.ref x) (.ref y)) Q E s := by
  simp only [richCompare, cmpInfo_NotEq, oneThing_ref]
  refine wpAny_holding (wpAny_bind (wpAny_cRoomFor (Nat.lt_of_succ_lt hu) ?_))
  refine wpAny_bind (I.type.here (wpAny_bind (hT.here (first_no X hn ?_))))
  simp only [Bool.false_eq_true, if_false, Bool.not_false, if_true]
  refine wpAny_bind (tryn_other X I P hy hxy hu ?_)
  refine wpAny_bind (back _ ?_)
  exact wpAny_bind (wpAny_rule (wpAny_bind (wpAny_isSame_ref_other hxy I.at_ hy (inst_notup I) (wpAny_pure hq))))
/-- a list says nothing of what is no list -/
theorem list_back {its : Array Value} {n : Nat} {Q : Option Value → Shared → Prop} (X : K.In s.heap) (I : PySem.W.InstAt s.heap x ox C od) (hm : PySem.W.mroIn K C (.type "list") = some false)
    (hy : s.heap.get? y = some { cls := .type "list", data := .seq its n }) (hq : Q none s) : wpAny (model prog w) A (tryCompare (.ref y) "__eq__" (.ref x)) Q E s := by
  refine wpAny_tryCompare_declines ⟨_, hy, rfl⟩ F.slot_list_eq (GQ.call_here F.slot_list_eq ⟨_, hy, rfl⟩ F.entry_list_eq (F.args_list_eq_2 _ _) ?_)
  have hi : PySem.W.Looks (model prog w) s.heap (isInstance (.ref x) (.type "list")) false := I.type.andThen (PySem.W.looks_mroIn X hm)
  unfold Builtin.«list.__eq__»
  show wpAny (model prog w) A.in1 (isInstance (.ref x) (.type "list") >>= _) _ _ s
  refine wpAny_bind (hi.here ?_)
  simp only [Bool.not_false, if_true]
  exact wpAny_pure ⟨rfl, hq⟩
end
section
variable {X : Cx} {C : Addr}
/-- == of two instances without an == of their own -/
def rEqI (C : Addr) : R2 := fun x y H Q => ∃ a b dx dy fs gs, x = .ref a ∧ y = .ref b ∧ H a = some (.ins C dx fs) ∧ H b = some (.ins C dy gs) ∧ Q (.bl (decide (a = b))) H
def rNeI (C : Addr) : R2 := fun x y H Q => ∃ a b dx dy fs gs, x = .ref a ∧ y = .ref b ∧ H a = some (.ins C dx fs) ∧ H b = some (.ins C dy gs) ∧ Q (.bl (!decide (a = b))) H
theorem op_eqI (P : Plain X.K C) (hu : X.A.units < cLine) : OpR X (compareOp .Eq) (rEqI C) := by
  intro pins s σ H x y u v Q I rx ry h
  obtain ⟨a, b, dx, dy, fs, gs, rfl, rfl, ha, hb, q⟩ := h
  cases rx
  cases ry
  obtain ⟨mA, J, _⟩ := ins_get I.hok ha
  obtain ⟨mB, J', _⟩ := ins_get I.hok hb
  obtain ⟨od, J, _⟩ := J.look
  obtain ⟨od', J', _⟩ := J'.look
  by_cases e : a = b
  · subst e
    exact rc_eq_same I.kIn J P hu ⟨.bl true, H, I, rfl, by simpa using q⟩
  · exact rc_eq_other I.kIn J P J'.at_ e J'.type (.inl rfl) (fun Q' q' => try_other I.kIn J' P J.at_ (Ne.symm e) q') hu ⟨.bl false, H, I, rfl, by simpa [e] using q⟩
theorem op_neI (P : Plain X.K C) (hu : X.A.units + 1 < cLine) : OpR X (compareOp .NotEq) (rNeI C) := by
  intro pins s σ H x y u v Q I rx ry h
  obtain ⟨a, b, dx, dy, fs, gs, rfl, rfl, ha, hb, q⟩ := h
  cases rx
  cases ry
  obtain ⟨mA, J, _⟩ := ins_get I.hok ha
  obtain ⟨mB, J', _⟩ := ins_get I.hok hb
  obtain ⟨od, J, _⟩ := J.look
  obtain ⟨od', J', _⟩ := J'.look
  by_cases e : a = b
  · subst e
    exact rc_ne_same I.kIn J P hu ⟨.bl false, H, I, rfl, by simpa using q⟩
  · exact rc_ne_other I.kIn J P J'.at_ e J'.type (.inl rfl) (fun Q' q' => tryn_other I.kIn J' P J.at_ (Ne.symm e) hu q') hu ⟨.bl true, H, I, rfl, by simpa [e] using q⟩
/-- == of such an instance and a list -/
def rEqIL (C : Addr) : R2 := fun x y H Q => ∃ a b dx fs ys, x = .ref a ∧ y = .ref b ∧ H a = some (.ins C dx fs) ∧ H b = some (.lst ys) ∧ Q (.bl false) H
theorem op_eqIL (P : Plain X.K C) (hs : PySem.W.subIn X.K (.type "list") (.ref C) = some false) (hm : PySem.W.mroIn X.K C (.type "list") = some false) (hu : X.A.units < cLine) : OpR X (compareOp .Eq) (rEqIL C) := by
  intro pins s σ H x y u v Q I rx ry h
  obtain ⟨a, b, dx, fs, ys, rfl, rfl, ha, hb, q⟩ := h
  cases rx
  cases ry
  obtain ⟨mA, J, _⟩ := ins_get I.hok ha
  obtain ⟨od, J, _⟩ := J.look
  obtain ⟨z, its, n, r, e⟩ := I.hok b _ hb
  have hab : a ≠ b := ne_of ha hb (by intro z; cases z)
  exact rc_eq_other I.kIn J P e hab ((PySem.W.Looks.ld e).andThen .now) (.inr hs) (fun Q' q' => list_back I.kIn J hm e q') hu ⟨.bl false, H, I, rfl, q⟩
end
end L2.G42

set_option Elab.async false
set_option linter.all false
set_option maxRecDepth 100000
set_option maxHeartbeats 4000000
namespace L2.G42
open PySem PySem.Spec PyProof.Rows
section
variable {P : Program} {w : World} {A : Around} {E : Value → Shared → Prop} {s : Shared}
/-- an empty set's object -/
abbrev eS (w : World) : Obj := { cls := .type "set", dict := none, data := .set #[] 0 (.fresh 0 0 (!w.params.followText "set-order")) }
/-- set.__init__ of the new set over a list of ints -/
theorem set_init_list {l : Addr} {its : Array Value} (ns : List Int) {R : Result → Shared → Prop} (hh : A.handled = none) (hl : s.heap.IsList l its) (hi : IntsAre its.toList ns) (few : ns.length + 1 < scanBound)
    (fin : ∀ (h' : Heap) (tk c : Nat), SetR w h' s.heap.objs.size (fun j => decide (j ∈ ns)) c → c ≤ ns.length → (∀ b o, s.heap.get? b = some o → h'.get? b = some o) → R (.ok (.ret .none)) { s with heap := h', toks := tk }) :
    wpAny (model P w) A.in1.in1 (Builtin.«set.__init__» ⟨[.ref s.heap.objs.size, .ref l], []⟩) (fun f s' => match f with | .done f => R (.ok f) s' | .again c' => c'.quiet = true ∧ codeAny (model P w) A.in1 c' R s') (fun e s' => R (.error e) s') { s with heap := s.heap.push (eS w) } := by
  have hz : its.size = ns.length := by
    have q := IntsAre.length hi
    rwa [Array.length_toList] at q
  obtain ⟨ob, hob, hcl, nl, hdl⟩ := hl
  obtain ⟨_, odict, _, osl⟩ := ob
  simp only at hcl hdl
  subst hcl; subst hdl
  have lts : l < s.heap.objs.size := Heap.lt_size hob
  have gS : (s.heap.push (eS w)).get? s.heap.objs.size = some (eS w) := Heap.get?_push_size _ rfl
  have gl : (s.heap.push (eS w)).get? l = some { cls := .type "list", dict := odict, data := .seq its nl, slots := osl } := Heap.get?_push_of_some _ hob
  have il : (s.heap.push (eS w)).IsList l its := ⟨_, gl, rfl, nl, rfl⟩
  have k1 := PySem.F.sub_list_set
  have k2 := PySem.F.sub_list_frozenset
  have k3 : (Value.type "list" == Value.type "dict") = false := by decide
  unfold Builtin.«set.__init__» noKeywords Builtin.Frozenset.updateFrom
  generalize hPI : pyIter = PI
  wp_walk
  subst hPI
  refine wpAny_pyIter_list il (wpAny_bind (wpAny_runValue ?_))
  have n1 : l ≠ (s.heap.push (eS w)).objs.size := by rw [Heap.size_push]; exact Nat.ne_of_lt (Nat.lt_succ_of_lt lts)
  have n2 : s.heap.objs.size ∉ [(s.heap.push (eS w)).objs.size, l] := by
    rw [Heap.size_push]
    simp only [List.mem_cons, List.mem_singleton, List.not_mem_nil, or_false, not_or]
    exact ⟨Nat.ne_of_lt (Nat.lt_succ_self _), Nat.ne_of_gt lts⟩
  refine set_update_ints ((Walks.list (A := A.in1.in1.in1) (by simp [hh]) _ l n1 its).toS) s.heap.objs.size n2 ns hz few (fun i v hv => ?_) its.size 0 _ rfl (Nat.zero_le _) ⟨⟨_, Heap.get?_push_size _ rfl, rfl, rfl⟩, il.push _⟩ ⟨0, Nat.le_refl 0, setR_new_at (Heap.get?_push_of_some _ gS)⟩ fun s' c hm hc hS => ?_
  · have lt : i < ns.length := hz ▸ (Array.getElem?_eq_some_iff.mp hv).1
    obtain ⟨t, e⟩ := PyProof.Rows.IntsAre.int_at hi i v (by rw [Array.getElem?_toList]; exact hv)
    exact ⟨ns[i], t, List.getElem?_eq_getElem lt, by rw [e, List.getD_eq_getElem?_getD, List.getElem?_eq_getElem lt]; rfl⟩
  · obtain ⟨h', _, _, tk, _⟩ := s'
    obtain rfl := hm.gens
    obtain rfl := hm.drawn
    obtain rfl := hm.os
    refine wpAny_pure (wpAny_pure (fin h' tk c hS (hz ▸ hc) fun b o e => ?_))
    have lb : b < s.heap.objs.size := Heap.lt_size e
    refine hm.heap b o ?_ (Heap.get?_push_of_some _ (Heap.get?_push_of_some _ e))
    rw [Heap.size_push]
    simp only [List.mem_cons, List.mem_singleton, List.not_mem_nil, or_false, not_or]
    exact ⟨Nat.ne_of_lt lb, Nat.ne_of_lt (Nat.lt_succ_of_lt lb)⟩
/-- how the init ends -/
def InitR (w : World) (s : Shared) (ns : List Int) : Result → Shared → Prop := fun r s₂ => r = .ok (.ret .none) ∧ ∃ h' tk c, s₂ = { s with heap := h', toks := tk } ∧ SetR w h' s.heap.objs.size (fun j => decide (j ∈ ns)) c ∧ c ≤ ns.length ∧ ∀ b o, s.heap.get? b = some o → h'.get? b = some o
/-- set(l), l a list of ints -/
theorem set_of_list {l : Addr} {its : Array Value} (ns : List Int) {Q : Value → Shared → Prop} (hh : A.handled = none) (hl : s.heap.IsList l its) (hi : IntsAre its.toList ns) (few : ns.length + 1 < scanBound)
    (fin : ∀ (h' : Heap) (tk c : Nat), SetR w h' s.heap.objs.size (fun j => decide (j ∈ ns)) c → c ≤ ns.length → (∀ b o, s.heap.get? b = some o → h'.get? b = some o) → Q (.ref s.heap.objs.size) { s with heap := h', toks := tk }) :
    wpAny (model P w) A (call (.type "set") [.ref l]) Q E s := by
  obtain ⟨_, _, e0⟩ := PySem.F.called_set.mro
  have e1 := PySem.F.called_set.made
  have e2 := PySem.F.called_set.sub
  have e3 := PySem.F.called_set.notType
  have e4 := PySem.F.called_set.canCreate
  have e5 := PySem.F.typeCall_set_1 (.ref l)
  refine wpAny_call (codeAny_of_tree ?_)
  show wpAny _ _ (callAny (.type "set") _) _ _ _
  refine wpAny_pure ⟨Code.quiet_builtin _ (by decide +kernel), codeAny_builtin PySem.F.entry_type_call ?_⟩
  rw [Around.under_plain (weight_type_call_type "set" [.ref l] []) rfl]
  repeat (any_goals (first | assumption | wp_step))
  refine codeAny_mono (code_set_led1 (.ref l) (E := E) (Q₁ := fun v s₁ => v = .ref s.heap.objs.size ∧ s₁ = { s with heap := s.heap.push (eS w) }) ⟨rfl, rfl⟩) fun r s₁ hr => ?_
  match r, hr with
  | .error _, hr => exact hr
  | .ok .next, hr => exact hr.elim
  | .ok .brk, hr => exact hr.elim
  | .ok .cont, hr => exact hr.elim
  | .ok (.ret v), hr =>
    obtain ⟨rfl, rfl⟩ := hr
    have gS : (s.heap.push (eS w)).get? s.heap.objs.size = some (eS w) := Heap.get?_push_size _ rfl
    have tS : Shared.TypeIs { s with heap := s.heap.push (eS w) } (.ref s.heap.objs.size) "set" := ⟨_, gS, rfl⟩
    have e6 := PySem.F.called_set.init.lookup
    have e7 := PySem.F.called_set.init.bind (.ref s.heap.objs.size)
    repeat (any_goals (first | assumption | wp_step))
    refine codeAny_mono (codeAny_call_builtin (R := InitR w s ns)
      PySem.F.called_set.init.plain PySem.F.entry_set_init (check_set_init_1 tS (set_init_list (P := P) (w := w) (A := A) (R := InitR w s ns) ns hh hl hi few fun h' tk c a b d => ⟨rfl, h', tk, c, rfl, a, b, d⟩))) fun r₂ s₂ hr₂ => ?_
    obtain ⟨rfl, h', tk, c, rfl, a, b, d⟩ := hr₂
    repeat (any_goals (first | assumption | wp_step))
    exact fin h' tk c a b d
end
section
variable {X : Cx}
/-- set(xs), xs a list of ints -/
def rSetL (K : PySem.W.Frag) (w : World) : List V → Hp → VK → Prop := fun xs H Q => ∃ (l : Addr) (ns : List Int), xs = [.ref l] ∧ SqL K H l (ns.map V.int) ∧ ns.length ≤ 1000 ∧
  ∀ p c, H p = none → c ≤ ns.length → Q (.ref p) (upd H p (SetO w p (fun j => decide (j ∈ ns)) c))
theorem cr_setL (hc : X.calm = true) : CallR X (.type "set") (rSetL X.K X.w) := by
  intro pins s σ H xs us Q I r h
  obtain ⟨l, ns, rfl, hl, few, q⟩ := h
  rw [Vals.ref1 r]
  obtain ⟨its, r1, e1, z1⟩ := I.list hl
  refine set_of_list ns (I.ok.hd hc) e1.isList (intsAre_of r1) (Nat.lt_of_le_of_lt (Nat.add_le_add_right few 1) (by decide)) fun h' tk c a b d => ?_
  have hp : H s.heap.objs.size = none := I.hok.fresh (Nat.le_refl _)
  exact ⟨.ref _, upd H s.heap.objs.size (SetO X.w s.heap.objs.size (fun j => decide (j ∈ ns)) c), I.laid d (Nat.le_refl _) (setO_new a), rfl, q _ c hp b⟩
end
end L2.G42

set_option Elab.async false
set_option linter.all false
set_option maxRecDepth 100000
set_option maxHeartbeats 4000000
namespace L2.G42
open PySem PySem.Spec PyProof.Rows
/-- a test that holds -/
theorem goT {p : Prop} [Decidable p] (h : p) {Q : VK} {H : Hp} (k : Q (.bl true) H) : Q (.bl (decide p)) H := by
  rw [decide_eq_true h]
  exact k
theorem goF {p : Prop} [Decidable p] (h : ¬ p) {Q : VK} {H : Hp} (k : Q (.bl false) H) : Q (.bl (decide p)) H := by
  rw [decide_eq_false h]
  exact k
/-- a dict comprehension over a walk: the new dict at D -/
theorem dc_it {J : It} {n : Nat} {G : Hp → Prop} {Y : Nat → Hp → V → Hp → Prop} (w : Walk J n G Y) {g : TG} {tt : TT} {tk tv : TE} {vs : List Nat} {σ : St} {H1 : Hp} {D : Addr} {Qd : Hp → Prop} (Pv : Nat → Hp → Prop) (h0 : Pv 0 (upd H1 D (.dK []))) (hG : ∀ i H, i ≤ n → Pv i H → G H)
    (hs : ∀ i x H H', i < n → Pv i H → Y i H x H' → g x (wipe σ vs) H' fun σ2 H2 => wipe σ2 vs = wipe σ vs ∧ tt σ2 H2 fun b H3 =>
      if b = true then tk σ2 H3 fun y H4 => tv σ2 H4 fun z H5 => ∃ kvs k, y = kV k ∧ H5 D = some (.dK kvs) ∧ kvs.length < sizeLine ∧ Pv (i + 1) (upd H5 D (.dK (putK kvs k z))) else Pv (i + 1) H3) (hd : ∀ H, Pv n H → Qd H) :
    ∃ W : Nat → Nat → Hp → Prop, (∃ m, W 0 m (upd H1 D (.dK []))) ∧ ∀ i m H, W i m H →
      (J.stop i H ∧ Qd H) ∨ (J.go i H ∧ ∃ Nx : Hp → Prop, (∀ H', Nx H' → ∃ m', m' < m ∧ W (i + 1) m' H') ∧ ∀ x H', J.yld i H x H' → g x (wipe σ vs) H' fun σ2 H2 => wipe σ2 vs = wipe σ vs ∧ tt σ2 H2 fun b H3 =>
        if b = true then tk σ2 H3 fun y H4 => tv σ2 H4 fun z H5 => ∃ kvs k, y = kV k ∧ H5 D = some (.dK kvs) ∧ kvs.length < sizeLine ∧ Nx (upd H5 D (.dK (putK kvs k z))) else Nx H3) := by
  refine ⟨fun i m H => m = n - i ∧ i ≤ n ∧ Pv i H, ⟨n, rfl, Nat.zero_le _, h0⟩, ?_⟩
  rintro i m H ⟨rfl, le, p⟩
  have q := hG i H le p
  rcases Nat.lt_or_ge i n with lt | ge
  · exact .inr ⟨w.goes i H lt q, Pv (i + 1), fun H' p' => ⟨n - (i + 1), by omega, rfl, lt, p'⟩, fun x H' y => hs i x H H' lt p (w.yields i H x H' lt q y)⟩
  · obtain rfl : i = n := by omega
    exact .inl ⟨w.stops H q, hd H p⟩
/-! the attributes of a bag -/
theorem in_sh : ¬ (("inside" : Str) = "shared") := by decide +kernel
theorem si_f : (("shared" : Str) == "inside") = false := by decide +kernel
abbrev bfs (u v : V) : List (Str × V) := [(("inside" : Str), u), (("shared" : Str), v)]
theorem bf1 (u : V) : putF "inside" u [] = [(("inside" : Str), u)] := rfl
theorem bf2 (u v : V) : putF "shared" v [(("inside" : Str), u)] = bfs u v := by
  show (if ("inside" : Str) = "shared" then _ else _) = _
  rw [if_neg in_sh]
  all_goals rfl
theorem bfI (u u' v : V) : putF "inside" u' (bfs u v) = bfs u' v := by
  show (if ("inside" : Str) = "inside" then _ else _) = _
  rw [if_pos rfl]
theorem bl_in (u v : V) : List.lookup ("inside" : Str) (bfs u v) = some u := by
  rw [List.lookup_cons]
  simp
theorem bl_sh (u v : V) : List.lookup ("shared" : Str) (bfs u v) = some v := by
  rw [List.lookup_cons, si_f, List.lookup_cons]
  simp
theorem bl_no {m : Str} (u v : V) (h1 : (m == ("inside" : Str)) = false) (h2 : (m == ("shared" : Str)) = false) : List.lookup m (bfs u v) = none := by
  rw [List.lookup_cons, h1, List.lookup_cons, h2]
  rfl
/-! a dict of ints, each with True -/
def kv (ks : List Int) : List (Key × V) := ks.map fun n => ((Sum.inl n : Key), V.bl true)
def ins (ks : List Int) (n : Int) : List Int := if n ∈ ks then ks else ks ++ [n]
def outof (ks : List Int) (n : Int) : List Int := ks.filter fun m => decide (m ≠ n)
theorem kv_len (ks : List Int) : (kv ks).length = ks.length := List.length_map ..
theorem kv_val (n : Int) : ∀ ks : List Int, valV (kv ks) (Sum.inl n : Key) = if n ∈ ks then some (.bl true) else none
  | [] => rfl
  | m :: ks => by
    by_cases e : m = n
    · subst e
      show valV ((Sum.inl m, V.bl true) :: kv ks) _ = _
      rw [valV_pos rfl, if_pos List.mem_cons_self]
    · show valV ((Sum.inl m, V.bl true) :: kv ks) _ = _
      rw [valV_neg (by intro h; exact e (Sum.inl.inj h)), kv_val n ks]
      have : (n ∈ m :: ks) ↔ n ∈ ks := by
        rw [List.mem_cons]
        exact ⟨fun h => h.elim (fun h => absurd h.symm e) id, .inr⟩
      simp only [this]
theorem kv_put (ks : List Int) (n : Int) : putK (kv ks) (Sum.inl n : Key) (.bl true) = kv (ins ks n) := by
  by_cases h : n ∈ ks
  · have e1 : ins ks n = ks := if_pos h
    rw [e1]
    unfold putK
    rw [valV_any, kv_val, if_pos h]
    show (kv ks).map (fun p => if p.1 = Sum.inl n then (p.1, V.bl true) else p) = kv ks
    unfold kv
    rw [List.map_map]
    refine List.map_congr_left fun a _ => ?_
    show (if (Sum.inl a : Key) = Sum.inl n then ((Sum.inl a : Key), V.bl true) else ((Sum.inl a : Key), V.bl true)) = _
    split <;> rfl
  · have e1 : ins ks n = ks ++ [n] := if_neg h
    rw [e1, putK_new _ (by rw [kv_val, if_neg h])]
    unfold kv
    rw [List.map_append]
    rfl
theorem kv_drop (ks : List Int) (n : Int) : dropK (kv ks) (Sum.inl n : Key) = kv (outof ks n) := by
  unfold dropK kv outof
  rw [List.filter_map]
  refine congrArg _ (List.filter_congr fun m _ => ?_)
  show decide ((Sum.inl m : Key) ≠ Sum.inl n) = decide (m ≠ n)
  by_cases e : m = n
  · subst e; simp
  · simp [e]
theorem kv_keys (ks : List Int) : (kv ks).map (fun kv => kV kv.1) = ks.map V.int := by
  unfold kv
  rw [List.map_map]
  rfl
theorem kv_get {ks : List Int} {i : Nat} {k : Key} {v : V} (h : (kv ks)[i]? = some (k, v)) : ∃ n, ks[i]? = some n ∧ k = Sum.inl n := by
  unfold kv at h
  rw [List.getElem?_map] at h
  cases e : ks[i]? with
  | none => rw [e] at h; cases h
  | some n =>
    rw [e] at h
    injection h with h
    injection h with h1 h2
    exact ⟨n, rfl, h1.symm⟩
theorem ins_mem (ks : List Int) (n m : Int) : m ∈ ins ks n ↔ m ∈ ks ∨ m = n := by
  unfold ins
  split
  · rename_i h
    exact ⟨.inl, fun q => q.elim id fun e => e ▸ h⟩
  · simp
theorem ins_nd {ks : List Int} (h : ks.Nodup) (n : Int) : (ins ks n).Nodup := by
  unfold ins
  split
  · exact h
  · rename_i e
    refine List.nodup_append.mpr ⟨h, by simp, fun a ha b hb => ?_⟩
    simp only [List.mem_singleton] at hb
    subst hb
    exact fun q => e (q ▸ ha)
theorem ins_len (ks : List Int) (n : Int) : (ins ks n).length ≤ ks.length + 1 := by
  unfold ins
  split
  · omega
  · simp
theorem outof_mem (ks : List Int) (n m : Int) : m ∈ outof ks n ↔ m ∈ ks ∧ m ≠ n := by
  unfold outof
  simp [List.mem_filter]
theorem outof_nd {ks : List Int} (h : ks.Nodup) (n : Int) : (outof ks n).Nodup := h.filter _
theorem outof_len (ks : List Int) (n : Int) : (outof ks n).length ≤ ks.length := List.length_filter_le _ _
def insAll (ks ns : List Int) : List Int := ns.foldl ins ks
def outAll (ks ns : List Int) : List Int := ns.foldl outof ks
theorem insAll_mem (m : Int) : ∀ (ns ks : List Int), m ∈ insAll ks ns ↔ m ∈ ks ∨ m ∈ ns
  | [], ks => by simp [insAll]
  | n :: ns, ks => by
    show m ∈ insAll (ins ks n) ns ↔ _
    rw [insAll_mem m ns, ins_mem, List.mem_cons, or_assoc]
theorem insAll_nd : ∀ (ns : List Int) {ks : List Int}, ks.Nodup → (insAll ks ns).Nodup
  | [], _, h => h
  | n :: ns, ks, h => insAll_nd ns (ins_nd h n)
theorem insAll_len : ∀ (ns ks : List Int), (insAll ks ns).length ≤ ks.length + ns.length
  | [], ks => by simp [insAll]
  | n :: ns, ks => by
    have a := insAll_len ns (ins ks n)
    have b := ins_len ks n
    show (insAll (ins ks n) ns).length ≤ _
    rw [List.length_cons]
    omega
theorem outAll_mem (m : Int) : ∀ (ns ks : List Int), m ∈ outAll ks ns ↔ m ∈ ks ∧ m ∉ ns
  | [], ks => by simp [outAll]
  | n :: ns, ks => by
    show m ∈ outAll (outof ks n) ns ↔ _
    rw [outAll_mem m ns, outof_mem, List.mem_cons, not_or, and_assoc]
theorem outAll_nd : ∀ (ns : List Int) {ks : List Int}, ks.Nodup → (outAll ks ns).Nodup
  | [], _, h => h
  | n :: ns, ks, h => outAll_nd ns (outof_nd h n)
theorem outAll_len : ∀ (ns ks : List Int), (outAll ks ns).length ≤ ks.length
  | [], ks => by simp [outAll]
  | n :: ns, ks => Nat.le_trans (outAll_len ns _) (outof_len ks n)
theorem insAll_take (ks ns : List Int) {i : Nat} {n : Int} (h : ns[i]? = some n) : insAll ks (ns.take (i + 1)) = ins (insAll ks (ns.take i)) n := by
  unfold insAll
  rw [List.take_add_one, h, List.foldl_append]
  rfl
theorem outAll_take (ks ns : List Int) {i : Nat} {n : Int} (h : ns[i]? = some n) : outAll ks (ns.take (i + 1)) = outof (outAll ks (ns.take i)) n := by
  unfold outAll
  rw [List.take_add_one, h, List.foldl_append]
  rfl
/-- two rising lists with the same members are one -/
theorem rise_one : ∀ {l m : List Int}, l.Pairwise (· < ·) → m.Pairwise (· < ·) → (∀ x, x ∈ l ↔ x ∈ m) → l = m
  | [], [], _, _, _ => rfl
  | [], y :: m, _, _, h => by have := (h y).2 List.mem_cons_self; cases this
  | x :: l, [], _, _, h => by have := (h x).1 List.mem_cons_self; cases this
  | x :: l, y :: m, hl, hm, h => by
    obtain ⟨h1, h2⟩ := List.pairwise_cons.mp hl
    obtain ⟨h3, h4⟩ := List.pairwise_cons.mp hm
    have exy : x = y := by
      rcases List.mem_cons.mp ((h x).1 List.mem_cons_self) with e | e
      · exact e
      · rcases List.mem_cons.mp ((h y).2 List.mem_cons_self) with e' | e'
        · exact e'.symm
        · have a := h3 x e
          have b := h1 y e'
          omega
    subst exy
    refine congrArg _ (rise_one h2 h4 fun z => ⟨fun hz => ?_, fun hz => ?_⟩)
    · rcases List.mem_cons.mp ((h z).1 (List.mem_cons_of_mem _ hz)) with e | e
      · subst e; have := h1 z hz; omega
      · exact e
    · rcases List.mem_cons.mp ((h z).2 (List.mem_cons_of_mem _ hz)) with e | e
      · subst e; have := h3 z hz; omega
      · exact e
theorem le_nd_lt : ∀ {l : List Int}, l.Pairwise (· ≤ ·) → l.Nodup → l.Pairwise (· < ·)
  | [], _, _ => .nil
  | x :: l, h, nd => by
    obtain ⟨h1, h2⟩ := List.pairwise_cons.mp h
    obtain ⟨n1, n2⟩ := List.nodup_cons.mp nd
    refine List.pairwise_cons.mpr ⟨fun y hy => ?_, le_nd_lt h2 n2⟩
    have a := h1 y hy
    have b : x ≠ y := fun e => n1 (e ▸ hy)
    omega
/-- what sorted gives of the keys -/
theorem sorted_is {ks ns' xs : List Int} (hp : ns'.Perm ks) (hs : ns'.Pairwise (· ≤ ·)) (nd : ks.Nodup) (hx : xs.Pairwise (· < ·)) (hm : ∀ x, x ∈ ks ↔ x ∈ xs) : ns' = xs :=
  rise_one (le_nd_lt hs (hp.nodup_iff.mpr nd)) hx fun x => (hp.mem_iff).trans (hm x)
end L2.G42

set_option Elab.async false
set_option linter.all false
set_option maxRecDepth 100000
set_option maxHeartbeats 4000000
namespace L2.G42
open PySem PySem.Spec PyProof.Rows
/-- a def that lets nothing out, as a caller sees it: its name, its promise, the values that fill up -/
structure Cl (P : Program) (w : World) (K : PySem.W.Frag) (mg : Str → Option Value) (base : Heap) (k : Nat) (x : Str) (sp : Sp) (dvs : List V) : Prop where
  ex : ∃ (f : Addr) (fd : FuncData) (ps : List Str) (ds : List Value), FnOk P w K mg base CX0 k f fd ps sp ∧ mg x = some (.ref f) ∧ PySem.W.keepIn K (.ref f) = true ∧ Binds K fd ps ds ∧ Vals dvs ds
/-- a method of the class at C -/
structure Mt (P : Program) (w : World) (K : PySem.W.Frag) (mg : Str → Option Value) (base : Heap) (k : Nat) (C : Addr) (m : Str) (sp : Sp) (dvs : List V) : Prop where
  ex : ∃ (f : Addr) (fd : FuncData) (ps : List Str) (ds : List Value), Cls K C ∧ Meth K C m f ∧ FnOk P w K mg base CX0 k f fd ps sp ∧ Binds K fd ps ds ∧ Vals dvs ds
/-- the class at C, called -/
structure Nw (P : Program) (w : World) (K : PySem.W.Frag) (mg : Str → Option Value) (base : Heap) (k : Nat) (x : Str) (C : Addr) (sp : Sp) (dvs : List V) : Prop where
  ex : ∃ (f : Addr) (fd : FuncData) (ps : List Str) (ds : List Value), Mk K C f ∧ FnOk P w K mg base CX0 k f fd ps sp ∧ mg x = some (.ref C) ∧ Binds K fd ps ds ∧ Vals dvs ds
section
variable {X : Cx} {k j : Nat} {C : Addr} {x m : Str} {sp : Sp} {dvs : List V} {p pos apos : Pos} {e o : Expr} {es : List Expr} {ta : TE} {t : TA}
theorem pe_c (c : Cl X.prog X.w X.K X.mg X.base k x sp dvs) (hr : Room j X.A) (hk : k ≤ j) (hg : Gl X x) (ha : PA X (e :: es) t) (hdb : (x == ("__debug__" : Str)) = false := by decide)
    (he : starEach (e :: es) X.env = (false, eval e X.env) :: starEach es X.env := by rfl) (hpl : (backTo pos (starEach es X.env)).any (·.1) = false := by rfl) : PE X (.Call (.Name x p) (e :: es) [] pos) (tCall sp dvs E0 t) :=
  let ⟨_, _, _, _, F, hm, kp, b, d⟩ := c.ex
  pe_call F (hr.mono hk) hg hm kp b d pass0 ha hdb he hpl
theorem pe_c0 (c : Cl X.prog X.w X.K X.mg X.base k x sp dvs) (hr : Room j X.A) (hk : k ≤ j) (hg : Gl X x) (hdb : (x == ("__debug__" : Str)) = false := by decide) : PE X (.Call (.Name x p) [] [] pos) (tCall sp dvs E0 tNil) :=
  let ⟨_, _, _, _, F, hm, kp, b, d⟩ := c.ex
  pe_call0 F (hr.mono hk) hg hm kp b d pass0 hdb
theorem pe_mk (c : Nw X.prog X.w X.K X.mg X.base k x C sp dvs) (hr : Room j X.A) (hk : k + 1 ≤ j) (hg : Gl X x) (ha : PA X (e :: es) t) (hdb : (x == ("__debug__" : Str)) = false := by decide)
    (he : starEach (e :: es) X.env = (false, eval e X.env) :: starEach es X.env := by rfl) (hpl : (backTo pos (starEach es X.env)).any (·.1) = false := by rfl) : PE X (.Call (.Name x p) (e :: es) [] pos) (tMake C sp dvs E0 t) :=
  let ⟨_, _, _, _, M, F, hm, b, d⟩ := c.ex
  pe_make M F (hr.mono hk) hg hm b d pass0 ha hdb he hpl
theorem pe_mt {pl : Sem Bool} (c : Mt X.prog X.w X.K X.mg X.base k C m sp dvs) (hr : Room j X.A) (hk : k ≤ j) (he : PE X o ta) (ha : PA X (e :: es) t)
    (hst : starEach (e :: es) X.env = (false, eval e X.env) :: starEach es X.env := by rfl) (hpl : (backTo pos (starEach es X.env)).any (·.1) = false := by rfl)
    (ht : eval (.Call (.Attribute o m apos) (e :: es) [] pos) X.env = (eval o X.env >>= fun ov => standAt apos.atName >>= fun _ => holding [ov] (getMethod ov m pl) >>= fun q => callWith pos q.1 q.2 (backTo pos (starEach (e :: es) X.env)) (backToKw pos (keywordEach [] X.env))) := by rfl) :
    PE X (.Call (.Attribute o m apos) (e :: es) [] pos) (tMeth C m sp dvs E0 ta t) :=
  let ⟨_, _, _, _, cl, hm, F, b, d⟩ := c.ex
  pe_meth (pl := pl) he cl hm F (hr.mono hk) b d pass0 ha hst hpl ht
theorem pe_mt0 {pl : Sem Bool} (c : Mt X.prog X.w X.K X.mg X.base k C m sp dvs) (hr : Room j X.A) (hk : k ≤ j) (he : PE X o ta)
    (ht : eval (.Call (.Attribute o m apos) [] [] pos) X.env = (eval o X.env >>= fun ov => standAt apos.atName >>= fun _ => holding [ov] (getMethod ov m pl) >>= fun q => callWith pos q.1 q.2 (backTo pos (starEach [] X.env)) (backToKw pos (keywordEach [] X.env))) := by rfl) :
    PE X (.Call (.Attribute o m apos) [] [] pos) (tMeth C m sp dvs E0 ta tNil) :=
  let ⟨_, _, _, _, cl, hm, F, b, d⟩ := c.ex
  pe_meth0 (pl := pl) he cl hm F (hr.mono hk) b d pass0 ht
end
end L2.G42

set_option Elab.async false
set_option linter.all false
set_option maxRecDepth 100000
set_option maxHeartbeats 4000000
namespace L2.G42
open PySem PySem.Spec PyProof.Rows
/-- a promise that is kept where no repr is under way (repr of lists and tuples asks that) -/
structure FnG (P : Program) (w : World) (K : PySem.W.Frag) (mg : Str → Option Value) (base : Heap) (CX : CXT) (k : Nat) (f : Addr) (fd : FuncData) (ps : List Str) (sp : Sp) : Prop where
  len : ∀ vs H Q E, sp vs H Q E → vs.length = ps.length
  run : ∀ (A : Around) (outer : List Env) (s : Shared) (H : Hp) (args : Args) (us : List Value) (vs : List V) (Q : VK) (E : XK), Room k A → A.guards = some [] → Env0 P w K mg base A outer s H → BindsTo s fd args (ps.zip us) → Vals vs us → sp vs H Q E →
    codeAny (model P w) A (.call (.ref f) args) (CR CX outer P w H s Q E) s
section
variable {CX : CXT} {P : Program} {w : World} {K : PySem.W.Frag} {mg : Str → Option Value} {base : Heap} {k : Nat} {f : Addr} {fd : FuncData} {ps : List Str} {sp : Sp}
theorem FnG.ofOk (F : FnOk P w K mg base CX k f fd ps sp) : FnG P w K mg base CX k f fd ps sp := ⟨F.len, fun A outer s H args us vs Q E hr _ => F.run A outer s H args us vs Q E hr⟩
/-- from the body's walk -/
theorem fng_of {name qual : Str} {params : Arguments} {body : List Stmt} {scope : Scope} {dV kV doc pm cdv ct oc : Value} {an od : Option Addr} {osl : Array (Option Value)} {N : List Str}
    (lk : K.lookup f = some ⟨oc, od, .func (PySem.W.fnOf name qual params body scope dV kV doc pm an cdv ct), osl⟩) (hcd : PySem.W.codeIn K cdv qual = true) (S : FnScope N ps scope) (len : ∀ vs H Q E, sp vs H Q E → vs.length = ps.length)
    (walk : ∀ (A : Around) (outer : List Env) (s : Shared) (H : Hp) (vs : List V) (Q : VK) (E : XK), Room k (A.deeper (envOfC qual scope s.heap.objs.size f cdv)) → (A.deeper (envOfC qual scope s.heap.objs.size f cdv)).guards = some [] → sp vs H Q E →
      ∃ t, PSs (cxOf CX P w K mg base N qual scope f cdv A outer s H E) body t ∧ t { nx := fun _ H' => Q .non H', rt := Q } (start N vs) H) :
    FnG P w K mg base CX (k + 1) f (PySem.W.fnOf name qual params body scope dV kV doc pm an cdv ct) ps sp := by
  refine ⟨len, fun A outer s H args us vs Q E hr hg e0 hb r hsp => ?_⟩
  have lim : s.heap.NoLimit := e0.mod.nolimit.keeps fun b o e => (e0.bs b o e).1
  have KX : K.In s.heap := e0.mod.kin.keeps fun b o e => (e0.bs b o e).1
  refine codeAny_call_function hr.depth (KX _ _ lk) rfl S.co S.gen rfl (PySem.W.codeRec_of KX hcd) (hb _ _ _ _ (wpAny_newFunctionEnv_cells S.kind (fun y hy => ?_) fun env he s1 x => ?_))
  · exact (S.par y.1 (List.of_mem_zip hy).1).elim .inl fun q => .inr ⟨q, PySem.W.cellsFrom_some _ _ _ (.inl q)⟩
  subst he
  refine ⟨lim.keeps x.toInCall.keep, codeAny_func ?_⟩
  obtain ⟨t, ht, hq⟩ := walk A outer s H vs Q E (hr.deeper _) hg hsp
  have I := inv_start (CX := CX) (E := E) S hr.hd e0 (len _ _ _ _ hsp) r x
  refine wpAny_mono (ht.run [] s1 (start N vs) H _ I hq) (fun fl s' hs => ?_) fun e s' hs => hs
  match fl, hs with
  | .ret u, ⟨v, σ', H', J, rv, q⟩ => exact ⟨v, H', J.os, J.bare, J.base, J.hok, rv, q⟩
  | .next, ⟨σ', H', J, q⟩ => exact ⟨V.non, H', J.os, J.bare, J.base, J.hok, rfl, q⟩
  | .brk, ⟨_, _, _, q⟩ => exact q.elim
  | .cont, ⟨_, _, _, q⟩ => exact q.elim
/-- the same of a def that lets nothing out -/
theorem Fun.okG {x qual : Str} {st : Stmt} {N : List Str} (F : Fun K x qual st f fd) (S : FnScope N ps (defScope st)) (len : ∀ vs H Q E, sp vs H Q E → vs.length = ps.length)
    (walk : ∀ (cdv : Value) (A : Around) (outer : List Env) (s : Shared) (H : Hp) (vs : List V) (Q : VK) (E : XK), Room k (A.deeper (envOfC qual (defScope st) s.heap.objs.size f cdv)) → (A.deeper (envOfC qual (defScope st) s.heap.objs.size f cdv)).guards = some [] → sp vs H Q E →
      ∃ t, PSs (cxOf CX0 P w K mg base N qual (defScope st) f cdv A outer s H E).nox (defBody st) t ∧ t { nx := fun _ H' => Q .non H', rt := Q } (start N vs) H) : FnG P w K mg base CX0 (k + 1) f fd ps sp := by
  obtain ⟨oc, od, kV, doc, pm, an, cdv, ct, osl, rfl, lk, hcd⟩ := F.ex
  refine fng_of lk hcd S len fun A outer s H vs Q E hr hg hsp => ?_
  obtain ⟨t, h, q⟩ := walk cdv A outer s H vs Q E hr hg hsp
  exact ⟨t, h.nox, q⟩
end
/-- a def, as a caller sees it, where no repr is under way -/
structure ClG (P : Program) (w : World) (K : PySem.W.Frag) (mg : Str → Option Value) (base : Heap) (k : Nat) (x : Str) (sp : Sp) (dvs : List V) : Prop where
  ex : ∃ (f : Addr) (fd : FuncData) (ps : List Str) (ds : List Value), FnG P w K mg base CX0 k f fd ps sp ∧ mg x = some (.ref f) ∧ PySem.W.keepIn K (.ref f) = true ∧ Binds K fd ps ds ∧ Vals dvs ds
section
variable {X : Cx} {k j : Nat} {C : Addr} {x m : Str} {sp : Sp} {dvs : List V} {p pos apos : Pos} {e o : Expr} {es : List Expr} {ta : TE} {t : TA}
theorem pe_cg (c : ClG X.prog X.w X.K X.mg X.base k x sp dvs) (hr : Room j X.A) (hk : k ≤ j) (gd : X.A.guards = some []) (hg : Gl X x) (ha : PA X (e :: es) t) (hdb : (x == ("__debug__" : Str)) = false := by decide)
    (he : starEach (e :: es) X.env = (false, eval e X.env) :: starEach es X.env := by rfl) (hpl : (backTo pos (starEach es X.env)).any (·.1) = false := by rfl) : PE X (.Call (.Name x p) (e :: es) [] pos) (tCall sp dvs E0 t) := by
  obtain ⟨f, fd, ps, ds, F, hm, kp, hb, hd⟩ := c.ex
  refine ⟨fun pins s σ H Q I h => wpAny_Call_Name_kw (ld_glob I hg hm ?_ hdb)⟩
  refine PySem.W.callWith_K (h₀ := X.base) I.ok.mod.kin kp (thn (ha.run pos pins s σ H _ I h) fun us s1 ⟨vs, H1, I1, r, q⟩ => ⟨I1.kIn, ?_⟩) he hpl
  have r2 : Vals (vs ++ dvs) (us ++ ds) := r.append hd
  have hl : (us ++ ds).length = ps.length := r2.length.symm.trans (F.len _ _ _ _ q)
  refine wpAny_call (codeAny_mono (F.run X.A X.stack s1 H1 ⟨us, []⟩ (us ++ ds) (vs ++ dvs) Q E0 (hr.mono hk) gd I1.env0 (hb s1 us I1.kIn hl) r2 q) fun r s' hq => ?_)
  match r, hq with
  | .error _, hq => exact hq.elim
  | .ok (.ret u), hq => exact I1.after hq
  | .ok .next, hq => exact hq.elim
  | .ok .brk, hq => exact hq.elim
  | .ok .cont, hq => exact hq.elim
end
/-! the end of a law's row -/
theorem law_callG {P : Program} {w : World} {K : PySem.W.Frag} {mg mb : Str → Option Value} {k : Nat} {fa a : Addr} {fd : FuncData} {x : Str} {sp : Sp} {s₁ : Shared} {vs : List Value} {ns : List Int}
    (KX : K.In s₁.heap) (hns : s₁.heap.Ns mainGlobals mg) (hb : s₁.heap.Ns builtinsNs mb) (hbb : ∀ x : Str, x ≠ "__name__" → mb x = bootBuiltins x) (hlim : s₁.heap.NoLimit) (hg : s₁.gens = #[])
    (ha : s₁.heap.get? a = some { cls := .type "list", data := .seq vs.toArray }) (hi : IntsAre vs ns) (hl : ns.length ≤ sizeLine) (hr : Room k callerA)
    (F : ∀ base : Heap, K.In base → base.Ns mainGlobals mg → FnG P w K mg base CX0 k fa fd [x] sp) (hbind : ∀ (s : Shared) (u : Value), BindsTo s fd ⟨[u], []⟩ [(x, u)])
    (hsp : ∀ H : Hp, Only H → SqL K H a (ns.map V.int) → sp [.ref a] H (fun v _ => v = .bl true) fun _ _ _ => False) :
    codeAny (model P w) callerA (.call (.ref fa) ⟨[.ref a], []⟩) (fun r s' => r = .ok (.ret (.bool true)) ∧ OldK s₁.heap s'.heap ∧ s'.os = s₁.os ∧ AllBare s'.gens) s₁ := by
  have rv := vals_ints hi
  -- the script's list stands locked, or in the written part
  have core : ∀ H : Hp, Only H → SqL K H a (ns.map V.int) → HOk P w H s₁.heap → (∀ b, H b ≠ none → b = a) → (H a ≠ none → K.lookup a = none) →
      codeAny (model P w) callerA (.call (.ref fa) ⟨[.ref a], []⟩) (fun r s' => r = .ok (.ret (.bool true)) ∧ OldK s₁.heap s'.heap ∧ s'.os = s₁.os ∧ AllBare s'.gens) s₁ := by
    intro H only sq ok here notK
    have low : ∀ {b : Addr} {u : HO}, H b = some u → b = a := fun {b u} e => here b (by rw [e]; simp)
    have isD : ∀ {b : Addr} {o : Obj} {es : Array DictEntry} {ep : Nat}, s₁.heap.get? b = some o → o.data = .dict es ep → H b = none := fun {b o es ep} e d => by
      cases q : H b with
      | none => rfl
      | some u =>
        obtain rfl := low q
        obtain rfl := Option.some.inj (ha.symm.trans e)
        cases d
    have nsK : ∀ {b : Addr} {m : Str → Option Value}, s₁.heap.Ns b m → (hidT s₁.heap H).Ns b m := fun {b m} ⟨o, es, ep, e, d, r⟩ => ⟨o, es, ep, hidT_get e (isD e d), d, r⟩
    have inK : K.In (hidT s₁.heap H) := fun b o e => by
      refine hidT_get (KX b o e) ?_
      cases q : H b with
      | none => rfl
      | some u =>
        obtain rfl := low q
        rw [notK (by rw [q]; simp)] at e
        cases e
    have e0 : Env0 P w K mg (hidT s₁.heap H) callerA [] s₁ H :=
      ⟨rfl, ⟨inK, nsK hns, ⟨mb, nsK hb, hbb⟩, let ⟨mc, h1, h2⟩ := hlim; ⟨mc, nsK h1, h2⟩⟩, fun b o e => of_hidT e, Nat.le_of_eq (hidT_size _ _), trivial, (fun b z => absurd (show b ∈ ([] : List Addr) from z) List.not_mem_nil), ok, .of_eq hg⟩
    refine codeAny_mono ((F _ inK (nsK hns)).run callerA [] s₁ H ⟨[.ref a], []⟩ [.ref a] [.ref a] _ _ hr rfl e0 (hbind s₁ (.ref a)) (.cons rfl .nil) (hsp H only sq)) fun r s' h => ?_
    match r, h with
    | .error _, h => exact h.elim
    | .ok .next, h => exact h.elim
    | .ok .brk, h => exact h.elim
    | .ok .cont, h => exact h.elim
    | .ok (.ret u), ⟨v, H', os, bare, un, ok', r', q⟩ =>
      obtain rfl : v = .bl true := q
      obtain rfl : u = Value.bool true := r'
      refine ⟨rfl, OldK.of_keep fun b o e => ?_, os, bare⟩
      rcases only b with z | ⟨ob, xs, z⟩
      · exact un.keep b o e z (fun y => absurd (show b ∈ ([] : List Addr) from y) List.not_mem_nil) (fun y => absurd (show b ∈ ([] : List Addr) from y) List.not_mem_nil)
      · obtain ⟨e1, _⟩ := ok b _ z
        obtain ⟨e2, _⟩ := ok' b _ (un.frzs b ob _ z)
        obtain rfl := Option.some.inj (e.symm.trans e1)
        exact e2
  cases hk : K.lookup a with
  | some o =>
    obtain rfl := Option.some.inj (ha.symm.trans (KX a o hk))
    exact core (fun _ => none) (fun _ => .inl rfl) (.inr ⟨_, vs.toArray, _, hk, rfl, rfl, rfl, by rw [List.size_toArray, hi.length]; exact hl, by simpa using rv⟩) (fun b u z => by cases z) (fun b z => absurd rfl z) fun z => absurd rfl z
  | none =>
    refine core (fun b => if b = a then some (.frz { cls := .type "list", data := .seq vs.toArray } (.lst (ns.map V.int))) else none) (fun b => ?_) (.inl (.inr ⟨_, if_pos rfl⟩)) (fun b u z => ?_) (fun b z => ?_) fun _ => hk
    · by_cases e : b = a
      · exact .inr ⟨_, _, if_pos e⟩
      · exact .inl (if_neg e)
    · by_cases e : b = a
      · subst e
        obtain rfl := Option.some.inj ((if_pos rfl).symm.trans z)
        exact ⟨ha, by rw [List.length_map]; exact hl, vs, _, rv, ha⟩
      · exact absurd ((if_neg e).symm.trans z) (by simp)
    · exact Classical.byContradiction fun e => z (if_neg e)
theorem walk_ofG {l : PySem.W.OpenLaw} {n k : Nat} {q : Program} {loose : List Str} {XP : (Str → Option Value) → Heap → Prop} {YP : World → Heap → Prop} {d : DefRec} {K : Params → PySem.W.Frag} {sp : World → Sp} {x : Str}
    (hn : l.most = some n) (hn2 : n ≤ sizeLine) (hdf : d.params.defaults = []) (hr : Room k callerA) (hY : ∀ (w : World) (h : Heap), YP w h → (K w.params).In h)
    (F : ∀ (w : World) (mg : Str → Option Value) (fa : Addr) (h : Heap), (K w.params).In h → h.Ns mainGlobals mg → mg d.name = some (.ref fa) →
      ∃ fd : FuncData, (∀ (s : Shared) (u : Value), BindsTo s fd ⟨[u], []⟩ [(x, u)]) ∧ ∀ base : Heap, (K w.params).In base → base.Ns mainGlobals mg → FnG l.prog w (K w.params) mg base CX0 k fa fd [x] (sp w))
    (hsp : ∀ (w : World) (H : Hp) (a : Addr) (ns : List Int), ns.length ≤ n → Only H → SqL (K w.params) H a (ns.map V.int) → sp w [.ref a] H (fun v _ => v = .bl true) fun _ _ _ => False) :
    PySem.W.WalkO q loose XP YP l.row.toRowW d [] (fun f vs => PySem.call f vs) := by
  refine Att.attach_call hn hdf fun w s₀ s₁ mg mb fa o pm cd doc a vs ns G Y ho hd hcd hmg hobj hints hlen hg => ?_
  obtain ⟨fd, hb, hF⟩ := F w mg fa _ (hY w _ Y) G.T.g hmg
  exact law_callG (hY w _ Y) G.T.g G.T.b G.T.builtins G.T.nolimit hg hobj hints (Nat.le_trans hlen hn2) hr hF hb fun H hO hS => hsp w H a ns hlen hO hS
end L2.G42

set_option Elab.async false
set_option linter.all false
set_option maxRecDepth 100000
set_option maxHeartbeats 4000000
namespace L2.G42
open PySem PySem.Spec PyProof.Rows
section
variable {X : Cx} {CX : CXT} {n : Nat} {C f : Addr} {fd : FuncData} {ps : List Str} {sp : Sp} {E : XK}
/-! len(o), v in o by own methods -/
def rLenI (C : Addr) (sp : Sp) (E : XK) : List V → Hp → VK → Prop := fun xs H Q => ∃ a dx fs, xs = [.ref a] ∧ H a = some (.ins C dx fs) ∧ sp [.ref a] H (fun v H' => ∃ k : Nat, v = .int (k : Nat) ∧ k < 2 ^ 62 ∧ Q v H') E
theorem env_in1 {pins : List (Addr × Obj)} {σ : St} {H : Hp} {s : Shared} (I : Inv X pins σ H s) : Env0 X.prog X.w X.K X.mg X.base X.A.in1 X.stack s H := by
  have e := I.env0
  exact ⟨e.frames, e.mod, e.bs, e.bsz, e.funs, e.frf, e.hok, e.bare⟩
theorem call_lenI (F : FnOk X.prog X.w X.K X.mg X.base CX n f fd ps sp) (hs : PySem.W.findIn X.K (.ref C) "__len__" = some (some (.ref f))) (hf : PySem.W.isFn X.K (.ref f) = true) (hb : Binds X.K fd ps []) (hr : Room (n + 1) X.A) (hx : Passes CX X E) :
    CallR X (.builtin "len") (rLenI C sp E) := by
  intro pins s σ H xs us Q I r h
  obtain ⟨a, dx, fs, rfl, ha, hsp⟩ := h
  rw [Vals.ref1 r]
  obtain ⟨mA, J, _⟩ := ins_get I.hok ha
  obtain ⟨od, J, _⟩ := J.look
  obtain ⟨m, hF⟩ := I.fr
  refine PySem.W.len_K hF I.ok.mod.kin J hs hf ?_
  have hl := F.len _ _ _ _ hsp
  refine wpAny_call (codeAny_mono (F.run X.A.in1 X.stack s H ⟨[.ref a], []⟩ [.ref a] [.ref a] _ E hr.in1 (env_in1 I) (by
    have := hb s [.ref a] I.kIn (by simpa using hl)
    simpa using this) (.cons rfl .nil) hsp) fun r s' hq => ?_)
  match r, hq with
  | .error e, hq => exact hx pins σ H s e s' I hq
  | .ok .next, hq => exact hq.elim
  | .ok .brk, hq => exact hq.elim
  | .ok .cont, hq => exact hq.elim
  | .ok (.ret u), hq =>
    obtain ⟨z, H', I', rz, k, rfl, hk, q⟩ := I.after hq
    obtain ⟨t, rfl⟩ := rz
    exact ⟨⟨by omega, by omega⟩, .int k, H', I'.tok _, ⟨_, rfl⟩, q⟩
/-- v in o -/
def rInI (C : Addr) (sp : Sp) (E : XK) (neg : Bool) : R2 := fun x y H Q => ∃ a dx fs, y = .ref a ∧ H a = some (.ins C dx fs) ∧ sp [y, x] H (fun v H' => ∃ b : Bool, v = .bl b ∧ Q (.bl (if neg = true then !b else b)) H') E
theorem op_inI (F : FnOk X.prog X.w X.K X.mg X.base CX n f fd ps sp) (hs : PySem.W.findIn X.K (.ref C) "__contains__" = some (some (.ref f))) (hf : PySem.W.isFn X.K (.ref f) = true) (hb : Binds X.K fd ps []) (hr : Room n X.A) (hx : Passes CX X E) :
    OpR X (compareOp .In) (rInI C sp E false) := by
  intro pins s σ H x y u v Q I rx ry h
  obtain ⟨a, dx, fs, rfl, ha, hsp⟩ := h
  cases ry
  obtain ⟨mA, J, _⟩ := ins_get I.hok ha
  obtain ⟨od, J, _⟩ := J.look
  obtain ⟨m, hF⟩ := I.fr
  refine PySem.W.in_K hF I.ok.mod.kin J hs hf (wpAny_mono (own_call F hb hr hx I (x := .ref a) (y := x) rfl rx hsp) (fun r s' q => ?_) fun _ _ e => e)
  cases r <;> first | exact q.elim | skip
  all_goals obtain ⟨z, H', I', rz, b, rfl, q⟩ := q
  all_goals cases rz
  exact wpAny_truthy_bool ⟨.bl _, H', I', rfl, q⟩
/-! repr of data -/
def rReprD (K : PySem.W.Frag) : List V → Hp → VK → Prop := fun xs H Q => ∃ x d, xs = [x] ∧ Dp K H x d ∧ d.showable = true ∧ d.hasDict = false ∧ d.shown.length ≤ sizeLine ∧ d.depth ≤ 60 ∧ Q (.str d.shown) H
theorem call_reprD (hg : X.A.guards = some []) (hu : X.A.units + 64 < cLine) : CallR X (.builtin "repr") (rReprD X.K) := by
  intro pins s σ H xs us Q I r h
  obtain ⟨x, d, rfl, dp, sh, nd, sz, dep, q⟩ := h
  match us, r with
  | [u], .cons rx .nil =>
    cases dp with
    | non =>
      cases rx
      exact PySem.P.repr_of_none ⟨.str _, H, I.tok _, ⟨_, rfl⟩, q⟩
    | bl b =>
      cases rx
      exact PySem.P.repr_of_bool ⟨.str _, H, I.tok _, ⟨_, rfl⟩, q⟩
    | int i =>
      obtain ⟨t, rfl⟩ := rx
      exact PySem.P.repr_of_int (by simpa [PyData.showable] using sh) ⟨.str _, H, I.tok _, ⟨_, rfl⟩, q⟩
    | str z =>
      obtain ⟨t, rfl⟩ := rx
      exact PySem.P.repr_of_str ⟨.str _, H, I.tok _, ⟨_, rfl⟩, q⟩ sz
    | lst h1 h2 =>
      obtain ⟨as, rd⟩ := Dp.reads I _ _ u (.lst h1 h2) rx
      cases rx
      exact repr_of_reads' rd sh (fun e => by rw [nd] at e; cases e) hg (by omega) (fun _ _ e => e) (fun h' t tk k => ⟨.str _, H, I.kept k, ⟨_, rfl⟩, q⟩) sz
    | tup h1 h2 =>
      obtain ⟨as, rd⟩ := Dp.reads I _ _ u (.tup h1 h2) rx
      cases rx
      exact repr_of_reads' rd sh (fun e => by rw [nd] at e; cases e) hg (by omega) (fun _ _ e => e) (fun h' t tk k => ⟨.str _, H, I.kept k, ⟨_, rfl⟩, q⟩) sz
theorem call_reprK {K : PySem.W.Frag} (hK : X.K = K) (hg : X.A.guards = some []) (hu : X.A.units + 64 < cLine) : CallR X (.builtin "repr") (rReprD K) := by
  subst hK
  exact call_reprD hg hu
/-! a for over one of two kinds of things -/
theorem pi_or {tg e : Expr} {w1 w2 : TI} (h1 : PI X tg e w1) (h2 : PI X tg e w2) : PI X tg e (fun σ H R => w1 σ H R ∨ w2 σ H R) :=
  ⟨fun pins s σ H R I h => h.elim (h1.run pins s σ H R I) (h2.run pins s σ H R I)⟩
end
end L2.G42

set_option Elab.async false
set_option linter.all false
set_option maxRecDepth 100000
set_option maxHeartbeats 4000000
namespace L2.G42
open PySem PySem.Spec PyProof.Rows
/-! errors with one attribute: class B(NestedError): def __init__(self, f): self.f = f -/
/-- what its __init__ promises -/
def spErr (C : Addr) (f : Str) : Sp := fun vs H Q _ => ∃ (a : Addr) (x : V), vs = [.ref a, x] ∧ H a = some (exo a C none) ∧ ∀ d, H d = none → d ≠ a → Q .non (upd (upd H d (exd d [(f, x)])) a (exo a C (some d)))
/-- the class, as a raise sees it -/
structure Er (P : Program) (w : World) (K : PySem.W.Frag) (mg : Str → Option Value) (base : Heap) (k : Nat) (x : Str) (C : Addr) (f : Str) : Prop where
  ex : ∃ (fI : Addr) (fd : FuncData) (ps : List Str), FnOk P w K mg base CX0 k fI fd ps (spErr C f) ∧ PySem.W.findIn K (.ref C) "__init__" = some (some (.ref fI)) ∧ PySem.W.typeIn K (.ref fI) = some (.type "function") ∧ Binds K fd ps []
  ok : OexC K C
  gl : mg x = some (.ref C)
theorem upd_err {H : Hp} {a d : Addr} {o1 o2 o3 u : HO} (ha : H a = none) (hd : d ≠ a) : upd (del (upd (upd (upd H a o1) d o2) a o3) a) d u = upd H d u := by
  funext b
  by_cases h1 : b = d
  · subst h1; rw [upd_same, upd_same]
  · rw [upd_ne h1, upd_ne h1]
    by_cases h2 : b = a
    · subst h2; rw [del_same, ha]
    · rw [del_ne h2, upd_ne h2, upd_ne h1, upd_ne h2]
/-- raise x(e) -/
def tRaise1 (C : Addr) (f : Str) (W : WX) (te : TE) : TS := fun _ σ H => tMkO C (spErr C f) [] (tCons te tNil) σ H fun cls d H' => W cls d σ H'
theorem err_one {C : Addr} {f : Str} {v : V} {H : Hp} {Q : XK} (k : ∀ d, H d = none → Q (.ref C) (some d) (upd H d (.xd [(f, v)]))) : [v].length ≤ 1000 ∧ ∀ a, H a = none → spErr C f (.ref a :: ([v] ++ [])) (upd H a (exo a C none))
    (fun z H2 => z = .non ∧ ∃ (d : Addr) (fs : List (Str × V)), H2 a = some (exo a C (some d)) ∧ H2 d = some (exd d fs) ∧ H d = none ∧ Q (.ref C) (some d) (upd (del H2 a) d (.xd fs))) (fun _ _ _ => False) := by
  refine ⟨by show 1 ≤ 1000; decide, fun a ha => ⟨a, v, rfl, upd_same, fun d hd ne => ⟨rfl, d, [(f, v)], upd_same, ?_, ?_, ?_⟩⟩⟩
  · rw [upd_ne ne, upd_same]
  · rw [upd_ne ne] at hd
    exact hd
  · rw [upd_ne ne] at hd
    rw [upd_err ha ne]
    exact k d hd
section
variable {X : Cx} {k j : Nat} {C : Addr} {x f m : Str} {sp : Sp} {dvs : List V} {p pos pos2 apos : Pos} {e o : Expr} {es : List Expr} {ta te : TE} {t : TA} {W : WX} {E : St → XK}
theorem ps_raise1 (c : Er X.prog X.w X.K X.mg X.base k x C f) (hc : X.calm = true) (tk : Takes X W) (hr : Room j X.A) (hk : k + 1 ≤ j) (hg : Gl X x) (he : PE X e te) (hdb : (x == ("__debug__" : Str)) = false := by decide)
    (hst : starEach (e :: []) X.env = (false, eval e X.env) :: starEach [] X.env := by rfl) : PS X (.Raise (some (.Call (.Name x p) [e] [] pos)) none pos2) (tRaise1 C f W te) := by
  obtain ⟨fI, fd, ps, F, h1, h2, hb⟩ := c.ex
  exact ps_raise hc tk (pmk_oex (dvs := []) c.ok h1 h2 F (hr.mono hk) hb .nil pass0 hg c.gl (pa_cons he pa_nil hst) hdb hst rfl)
/-! calls whose errors are wished for at the slots -/
/-- a method that may raise -/
structure MtX (P : Program) (w : World) (K : PySem.W.Frag) (mg : Str → Option Value) (base : Heap) (k : Nat) (C : Addr) (m : Str) (sp : Sp) (dvs : List V) : Prop where
  ex : ∃ (f : Addr) (fd : FuncData) (ps : List Str) (ds : List Value), Cls K C ∧ Meth K C m f ∧ FnOk P w K mg base (L2.CX P w) k f fd ps sp ∧ Binds K fd ps ds ∧ Vals dvs ds
/-- a class whose __init__ may raise -/
structure NwX (P : Program) (w : World) (K : PySem.W.Frag) (mg : Str → Option Value) (base : Heap) (k : Nat) (x : Str) (C : Addr) (sp : Sp) (dvs : List V) : Prop where
  ex : ∃ (f : Addr) (fd : FuncData) (ps : List Str) (ds : List Value), Mk K C f ∧ FnOk P w K mg base (L2.CX P w) k f fd ps sp ∧ mg x = some (.ref C) ∧ Binds K fd ps ds ∧ Vals dvs ds
/-- a def that may raise -/
structure ClX (P : Program) (w : World) (K : PySem.W.Frag) (mg : Str → Option Value) (base : Heap) (k : Nat) (x : Str) (sp : Sp) (dvs : List V) : Prop where
  ex : ∃ (f : Addr) (fd : FuncData) (ps : List Str) (ds : List Value), FnOk P w K mg base (L2.CX P w) k f fd ps sp ∧ mg x = some (.ref f) ∧ PySem.W.keepIn K (.ref f) = true ∧ Binds K fd ps ds ∧ Vals dvs ds
def tMethS (C : Addr) (m : Str) (sp : Sp) (dvs : List V) (E : St → XK) (ta : TE) (t : TA) : TE := fun σ H Q => ta σ H fun x H1 => ∃ a dx fs, x = .ref a ∧ H1 a = some (.ins C dx fs) ∧ fs.lookup m = none ∧
  t σ H1 fun vs H2 => sp (x :: (vs ++ dvs)) H2 Q (E σ)
def tMakeS (C : Addr) (sp : Sp) (dvs : List V) (E : St → XK) (t : TA) : TE := fun σ H Q => t σ H fun vs H1 => ∀ x dx, H1 x = none → H1 dx = none → dx ≠ x →
  sp (.ref x :: (vs ++ dvs)) (upd (upd H1 dx (.own x)) x (.ins C dx [])) (fun v H2 => v = .non ∧ Q (.ref x) H2) (E σ)
/-- no error leaves -/
theorem pe_mtx {pl : Sem Bool} (c : MtX X.prog X.w X.K X.mg X.base k C m sp dvs) (hr : Room j X.A) (hk : k ≤ j) (he : PE X o ta) (ha : PA X (e :: es) t)
    (hst : starEach (e :: es) X.env = (false, eval e X.env) :: starEach es X.env := by rfl) (hpl : (backTo pos (starEach es X.env)).any (·.1) = false := by rfl)
    (ht : eval (.Call (.Attribute o m apos) (e :: es) [] pos) X.env = (eval o X.env >>= fun ov => standAt apos.atName >>= fun _ => holding [ov] (getMethod ov m pl) >>= fun q => callWith pos q.1 q.2 (backTo pos (starEach (e :: es) X.env)) (backToKw pos (keywordEach [] X.env))) := by rfl) :
    PE X (.Call (.Attribute o m apos) (e :: es) [] pos) (tMeth C m sp dvs E0 ta t) :=
  let ⟨_, _, _, _, cl, hm, F, b, d⟩ := c.ex
  pe_meth (pl := pl) he cl hm F (hr.mono hk) b d passL ha hst hpl ht
theorem pe_mkx (c : NwX X.prog X.w X.K X.mg X.base k x C sp dvs) (hr : Room j X.A) (hk : k + 1 ≤ j) (hg : Gl X x) (ha : PA X (e :: es) t) (hdb : (x == ("__debug__" : Str)) = false := by decide)
    (he : starEach (e :: es) X.env = (false, eval e X.env) :: starEach es X.env := by rfl) (hpl : (backTo pos (starEach es X.env)).any (·.1) = false := by rfl) : PE X (.Call (.Name x p) (e :: es) [] pos) (tMake C sp dvs E0 t) :=
  let ⟨_, _, _, _, M, F, hm, b, d⟩ := c.ex
  pe_make M F (hr.mono hk) hg hm b d passL ha hdb he hpl
theorem pe_mkx0 (c : NwX X.prog X.w X.K X.mg X.base k x C sp dvs) (hr : Room j X.A) (hk : k + 1 ≤ j) (hg : Gl X x) (hdb : (x == ("__debug__" : Str)) = false := by decide) : PE X (.Call (.Name x p) [] [] pos) (tMake C sp dvs E0 tNil) :=
  let ⟨_, _, _, _, M, F, hm, b, d⟩ := c.ex
  pe_make0 M F (hr.mono hk) hg hm b d passL hdb
/-- in a try -/
theorem run_fnE {CX : CXT} {f : Addr} {fd : FuncData} {ps : List Str} {ds : List Value} {pins : List (Addr × Obj)} {σ : St} {H : Hp} {s : Shared} {Q : VK} {us : List Value} {vs : List V} (F : FnOk X.prog X.w X.K X.mg X.base CX k f fd ps sp) (hr : Room k X.A) (hb : Binds X.K fd ps ds) (hd : Vals dvs ds) (hx : PassesAt CX X σ (E σ))
    (I : Inv X pins σ H s) (r : Vals vs us) (h : sp (vs ++ dvs) H Q (E σ)) : wpAny (model X.prog X.w) X.A (call (.ref f) us) (EP X pins σ Q) X.xe s := by
  have r2 : Vals (vs ++ dvs) (us ++ ds) := r.append hd
  have hl : (us ++ ds).length = ps.length := r2.length.symm.trans (F.len _ _ _ _ h)
  refine wpAny_call (codeAny_mono (F.run X.A X.stack s H ⟨us, []⟩ (us ++ ds) (vs ++ dvs) Q (E σ) hr I.env0 (hb s us I.kIn hl) r2 h) fun r s' hq => ?_)
  match r, hq with
  | .error e, hq => exact hx pins H s e s' I hq
  | .ok (.ret u), hq => exact I.after hq
  | .ok .next, hq => exact hq.elim
  | .ok .brk, hq => exact hq.elim
  | .ok .cont, hq => exact hq.elim
theorem pe_mtS {pl : Sem Bool} (c : MtX X.prog X.w X.K X.mg X.base k C m sp dvs) (tk : Takes X W) (hr : Room j X.A) (hk : k ≤ j) (he : PE X o ta) (ha : PA X (e :: es) t)
    (hst : starEach (e :: es) X.env = (false, eval e X.env) :: starEach es X.env := by rfl) (hpl : (backTo pos (starEach es X.env)).any (·.1) = false := by rfl)
    (ht : eval (.Call (.Attribute o m apos) (e :: es) [] pos) X.env = (eval o X.env >>= fun ov => standAt apos.atName >>= fun _ => holding [ov] (getMethod ov m pl) >>= fun q => callWith pos q.1 q.2 (backTo pos (starEach (e :: es) X.env)) (backToKw pos (keywordEach [] X.env))) := by rfl) :
    PE X (.Call (.Attribute o m apos) (e :: es) [] pos) (tMethS C m sp dvs (WE W) ta t) := by
  obtain ⟨f, fd, ps, ds, cl, hm, F, hb, hd⟩ := c.ex
  refine ⟨fun pins s σ H Q I h => ?_⟩
  refine PySem.W.methodCall_KW (pl := pl) (thn (he.run pins s σ H _ I h) fun u s1 ⟨x, H1, I1, rx, a, dx, fs, ex, ea, l, q⟩ => ?_) ht
  subst ex
  obtain rfl : u = Value.ref a := rx
  refine getmeth_ok I1 ea cl hm l ?_
  refine PySem.W.callWith_K (first := [.ref a]) (h₀ := X.base) I.ok.mod.kin hm.kp (thn (ha.run pos pins s1 σ H1 _ I1 q) fun us s2 ⟨vs, H2, I2, r, q2⟩ => ⟨I2.kIn, ?_⟩) hst hpl
  exact run_fnE (us := .ref a :: us) (vs := .ref a :: vs) F (hr.mono hk) hb hd (passAt tk σ) I2 (.cons rfl r) q2
theorem pe_cS (c : ClX X.prog X.w X.K X.mg X.base k x sp dvs) (tk : Takes X W) (hr : Room j X.A) (hk : k ≤ j) (hg : Gl X x) (ha : PA X (e :: es) t) (hdb : (x == ("__debug__" : Str)) = false := by decide)
    (he : starEach (e :: es) X.env = (false, eval e X.env) :: starEach es X.env := by rfl) (hpl : (backTo pos (starEach es X.env)).any (·.1) = false := by rfl) :
    PE X (.Call (.Name x p) (e :: es) [] pos) (fun σ H Q => t σ H fun vs H1 => sp (vs ++ dvs) H1 Q (WE W σ)) := by
  obtain ⟨f, fd, ps, ds, F, hm, kp, hb, hd⟩ := c.ex
  refine ⟨fun pins s σ H Q I h => wpAny_Call_Name_kw (ld_glob I hg hm ?_ hdb)⟩
  refine PySem.W.callWith_K (h₀ := X.base) I.ok.mod.kin kp (thn (ha.run pos pins s σ H _ I h) fun us s1 ⟨vs, H1, I1, r, q⟩ => ⟨I1.kIn, ?_⟩) he hpl
  exact run_fnE F (hr.mono hk) hb hd (passAt tk σ) I1 r q
theorem pe_mkS (c : NwX X.prog X.w X.K X.mg X.base k x C sp dvs) (tk : Takes X W) (hr : Room j X.A) (hk : k + 1 ≤ j) (hg : Gl X x) (ha : PA X (e :: es) t) (hdb : (x == ("__debug__" : Str)) = false := by decide)
    (he : starEach (e :: es) X.env = (false, eval e X.env) :: starEach es X.env := by rfl) (hpl : (backTo pos (starEach es X.env)).any (·.1) = false := by rfl) : PE X (.Call (.Name x p) (e :: es) [] pos) (tMakeS C sp dvs (WE W) t) := by
  obtain ⟨f, fd, ps, ds, M, F, hm, hb, hd⟩ := c.ex
  refine ⟨fun pins s σ H Q I h => wpAny_Call_Name_kw (ld_glob I hg hm ?_ hdb)⟩
  refine PySem.W.callWith_K (h₀ := X.base) I.ok.mod.kin M.kp (thn (ha.run pos pins s σ H _ I h) fun us s1 ⟨vs, H1, I1, r, q1⟩ => ⟨I1.kIn, ?_⟩) he hpl
  have hq := q1 (s1.heap.objs.size + 1) s1.heap.objs.size (I1.hok.fresh (Nat.le_succ _)) (I1.hok.fresh (Nat.le_refl _)) (Nat.ne_of_lt (Nat.lt_succ_self _))
  have I2 := Inv.made (C := C) I1
  have r2 : Vals (V.ref (s1.heap.objs.size + 1) :: (vs ++ dvs)) (Value.ref (s1.heap.objs.size + 1) :: (us ++ ds)) := .cons rfl (r.append hd)
  have hl : (Value.ref (s1.heap.objs.size + 1) :: us ++ ds).length = ps.length := r2.length.symm.trans (F.len _ _ _ _ hq)
  refine wpAny_call (make_map (f := f) I1.kIn M.makes M.init (beq_iff_eq.mp M.fn) (codeAny_mono (F.run _ X.stack _ _ ⟨Value.ref (s1.heap.objs.size + 1) :: us, []⟩ (Value.ref (s1.heap.objs.size + 1) :: (us ++ ds)) _ _ (WE W σ) ((hr.mono hk).make C us [])
    (I2.env0.make C us []) (hb _ (Value.ref (s1.heap.objs.size + 1) :: us) I2.kIn hl) r2 hq) fun r s' hq' => ?_))
  match r, hq' with
  | .error er, hq' => exact passAt tk σ pins _ _ er s' I2 hq'
  | .ok .next, hq' => exact hq'.elim
  | .ok .brk, hq' => exact hq'.elim
  | .ok .cont, hq' => exact hq'.elim
  | .ok (.ret u), hq' =>
    obtain ⟨v, H', I3, rv, rfl, q3⟩ := I2.after hq'
    exact ⟨rv, ⟨V.ref (s1.heap.objs.size + 1), H', I3, rfl, q3⟩⟩
end
/-- isinstance(e, c), e the error that the suite holds, its dict at d -/
structure ExcD (K : PySem.W.Frag) (D : Addr) : Prop where
  hc : (PySem.W.clsIn K D).isSome = true
  hg : PySem.W.findIn K (.ref D) "__getattribute__" = some (some (.builtin "BaseException.__getattribute__"))
  hk : PySem.W.findIn K (.ref D) "__getattr__" = some none
  hs : PySem.W.subIn K (.ref D) (.type "BaseException") = some true
  ha : PySem.W.findIn K (.ref D) "__class__" = some (some (.builtin "object.__class__"))
  hn : PySem.W.specialIn K (.builtin "object.__class__") "__get__" = some (some (.builtin "getset_descriptor.__get__"))
  ht : PySem.W.takesIn K (.builtin "object.__class__") = some true
  hm : PySem.W.mroIn K D (.type "object") = some true
def rIsD (K : PySem.W.Frag) (D a : Addr) (cls : Value) (d : Option Addr) : List V → Hp → VK → Prop := fun xs H Q => ∃ (c : V) (cv : Value) (b : Bool) (dd : Addr) (fs : List (Str × V)), xs = [.ref a, c] ∧ cls = .ref D ∧ d = some dd ∧ H dd = some (.xd fs) ∧ (∀ u, RelV c u → u = cv) ∧ PySem.W.kitOne K (.ref D) cv = some b ∧ Q (.bl b) H
theorem call_isD {X : Cx} {a D : Addr} {oe : Obj} {cls : Value} {d : Option Addr} {pn : List (Addr × Obj)} (C : ExcD X.K D) (hz : Zc cls d oe) (hf : ∃ vs, oe.data = .fields vs) : CallR (X.suite a ((a, oe) :: pn)) (.builtin "isinstance") (rIsD X.K D a cls d) := by
  intro pins s σ H xs us Q I r h
  obtain ⟨c, cv, b, dd, fs, rfl, rfl, rfl, hd, hcv, e, q⟩ := h
  match us, r with
  | [u, uc], .cons rx (.cons rc .nil) =>
    cases rx
    obtain rfl := hcv _ rc
    obtain ⟨hget, _⟩ := I.pin (a, oe) (List.mem_append.mpr (.inl List.mem_cons_self))
    obtain ⟨vs, hv⟩ := hf
    have hx : ObjOk X.prog X.w H s.heap dd (.xd fs) := I.hok dd _ hd
    obtain ⟨mA, hns, _⟩ := hx
    obtain ⟨od, ho, _⟩ := lookIn_ns hns
    have J : PySem.W.InstAt s.heap a oe D (some od) := ⟨hget, hz.1, by unfold PySem.W.notCls; rw [hv] <;> rfl, by rw [hz.2]; exact ho⟩
    exact PySem.W.kia_one (PySem.W.kitx_exc C.hc C.hg C.hk C.hs C.ha C.hn C.ht C.hm) I.kIn J e (fun z => nomatch z) fun tk => ⟨.bl b, H, I.kept (t' := tk) fun _ _ z => z, rfl, q⟩
end L2.G42

set_option Elab.async false
set_option linter.all false
set_option maxRecDepth 100000
set_option maxHeartbeats 4000000
namespace L2.G42
open PySem PySem.Spec
open PyProof.Rows (boot_isinstance boot_int boot_bool boot_list boot_set boot_abs boot_enumerate)
theorem boot_sorted : bootBuiltins "sorted" = some (.builtin "sorted") := by decide +kernel
theorem boot_max : bootBuiltins "max" = some (.builtin "max") := by decide +kernel
theorem boot_min : bootBuiltins "min" = some (.builtin "min") := by decide +kernel
theorem boot_any : bootBuiltins "any" = some (.builtin "any") := by decide +kernel
theorem boot_repr : bootBuiltins "repr" = some (.builtin "repr") := by decide +kernel
/-- names of the module that are the built-in ones -/
structure Bn (mg : Str → Option Value) : Prop where
  isi : mg "isinstance" = none
  int : mg "int" = none
  bool : mg "bool" = none
  list : mg "list" = none
  sorted : mg "sorted" = none
  len : mg "len" = none
  set : mg "set" = none
  range : mg "range" = none
  enumerate : mg "enumerate" = none
  max : mg "max" = none
  min : mg "min" = none
  abs : mg "abs" = none
  any : mg "any" = none
  all : mg "all" = none
  tuple : mg "tuple" = none
  str : mg "str" = none
  dict : mg "dict" = none
  repr : mg "repr" = none
/-- what a bag may hold -/
def Fits (n : Int) : Prop := -(10 ^ 30) ≤ n ∧ n ≤ 10 ^ 30
/-- the heap has grown, or changed at the addresses of S alone -/
def But (S : Addr → Prop) (H H' : Hp) : Prop := ∀ b o, H b = some o → ¬ S b → H' b = some o
theorem But.refl {S : Addr → Prop} {H : Hp} : But S H H := fun _ _ h _ => h
theorem But.trans {S : Addr → Prop} {H H1 H2 : Hp} (a : But S H H1) (b : But S H1 H2) : But S H H2 := fun x o h n => b x o (a x o h n) n
theorem But.new {S : Addr → Prop} {H : Hp} {p : Addr} {o : HO} (h : H p = none) : But S H (upd H p o) := fun a u e _ => by
  rw [upd_ne (ne_of_none e h)]
  exact e
theorem But.at {S : Addr → Prop} {H : Hp} {p : Addr} {o : HO} (h : S p) : But S H (upd H p o) := fun a u e n => by
  rw [upd_ne (fun q => n (by rw [q]; exact h))]
  exact e
theorem But.mono {S S' : Addr → Prop} {H H' : Hp} (a : But S H H') (h : ∀ x, S x → S' x) : But S' H H' := fun x o e n => a x o e fun q => n (h x q)
/-- a change of what was not there before -/
theorem But.fresh {S : Addr → Prop} {H H' : Hp} {p : Addr} {o : HO} (a : But S H H') (h : H p = none) : But S H (upd H' p o) := fun x u e n => by
  rw [upd_ne (ne_of_none e h)]
  exact a x u e n
theorem But.free {H H' : Hp} (a : But (fun _ => False) H H') {p : Addr} (h : H' p = none) : H p = none := by
  cases e : H p with
  | none => rfl
  | some o => rw [a p o e id] at h; cases h
theorem szl {n : Nat} (h : n ≤ 100000) : n < sizeLine := Nat.lt_of_le_of_lt h (by decide)
theorem szle {n : Nat} (h : n ≤ 100000) : n ≤ sizeLine := Nat.le_of_lt (szl h)
theorem map_int_inj : ∀ {l m : List Int}, l.map V.int = m.map V.int → l = m
  | [], [], _ => rfl
  | [], _ :: _, h => by cases h
  | _ :: _, [], h => by cases h
  | x :: l, y :: m, h => by
    injection h with h1 h2
    injection h1 with h1
    rw [h1, map_int_inj h2]
theorem filter_take {α : Type} (f : α → Bool) (l : List α) {i : Nat} {x : α} (h : l[i]? = some x) : (l.take (i + 1)).filter f = (l.take i).filter f ++ if f x then [x] else [] := by
  rw [List.take_add_one, h, List.filter_append]
  congr 1
  show List.filter f [x] = _
  cases e : f x <;> simp [e]
theorem upd_twice (H : Hp) (a : Addr) (o o' : HO) : upd (upd H a o) a o' = upd H a o' := by
  funext b
  by_cases h : b = a
  · subst h; rw [upd_same, upd_same]
  · rw [upd_ne h, upd_ne h, upd_ne h]
abbrev src (c st n : Int) : HO := .lst [.int c, .int st, .int n]
def SrcAt (H : Hp) (a : Addr) : Prop := ∃ c st n : Int, H a = some (src c st n)
theorem src0 {K : PySem.W.Frag} {H : Hp} {a : Addr} {c st n : Int} (h : H a = some (src c st n)) : SqL K H a [.int c, .int st, .int n] := SqL.of h
theorem SqL.grow {K : PySem.W.Frag} {H H' : Hp} {a : Addr} {xs : List V} (h : SqL K H a xs) (g : But (fun _ => False) H H') : SqL K H' a xs := by
  rcases h with (h | ⟨o, h⟩) | h
  · exact .inl (.inl (g _ _ h id))
  · exact .inl (.inr ⟨o, g _ _ h id⟩)
  · exact .inr h
theorem cut_mem {xs : List V} {lo hi : Option Int} {x : V} (h : x ∈ cutV xs lo hi) : x ∈ xs := List.mem_of_mem_drop (List.mem_of_mem_take h)
theorem cut_to {xs : List V} {k : Nat} : cutV xs none (some (k : Int)) = xs.take k := by
  unfold cutV HT.sIx
  simp
  rw [if_neg (by omega)]
  omega
theorem take_map (ns : List Int) (k : Nat) : (ns.map V.int).take k = (ns.take k).map V.int := (List.map_take).symm
theorem SrcAt.but {H H' : Hp} {a : Addr} (h : SrcAt H a) (g : But (fun _ => False) H H') : SrcAt H' a := let ⟨c, st, n, e⟩ := h; ⟨c, st, n, g _ _ e id⟩
section
variable {K : PySem.W.Frag} {w : World}
theorem set_sorted {H : Hp} {Q : VK} {l : Addr} {ns xs : List Int} (hl : SqL K H l (ns.map V.int)) (few : ns.length < 64) (hx : xs.Pairwise (· < ·)) (hm : ∀ x, x ∈ xs ↔ x ∈ ns)
    (k : ∀ (q : Addr) (H' : Hp), H q = none → H' q = some (.lst (xs.map V.int)) → But (fun _ => False) H H' → Q (.ref q) H') :
    rSetL K w [.ref l] H fun v H1 => rSortedSet w [v] H1 Q := by
  refine ⟨l, ns, rfl, hl, by omega, fun p c hp hc => ⟨p, _, c, rfl, upd_same, by omega, fun ys q hy hz _ hq => ?_⟩⟩
  have e : ys = xs := rise_one hy hx fun x => by rw [hz, hm]; simp
  subst e
  have hq0 : H q = none := But.free (But.new hp) hq
  exact k q _ hq0 upd_same ((But.new hp).trans (But.new hq))
theorem inV_int (n : Int) (ys : List Int) : inV (.int n) (ys.map V.int) = decide (n ∈ ys) := by
  unfold inV
  rw [List.any_map, Bool.eq_iff_iff, List.any_eq_true, decide_eq_true_eq]
  constructor
  · rintro ⟨x, hx, e⟩
    have : x = n := by simpa [eqV] using e
    exact this ▸ hx
  · intro h
    exact ⟨n, h, by simp [eqV]⟩
theorem flat_ints (ys : List Int) : (ys.map V.int).all flatV = true := by
  rw [List.all_map, List.all_eq_true]
  intro x _
  rfl
end
def spTake : Sp := fun vs H Q _ => ∃ (a : Addr) (many : Int), vs = [.ref a, .int many] ∧ 0 < many ∧ many.natAbs.log2 < 9000 ∧ SrcAt H a ∧ ∀ r c st n : Int, 0 ≤ r → r < many → Q (.int r) (upd H a (src c st n))
def spSource (K : PySem.W.Frag) : Sp := fun vs H Q _ => ∃ (a : Addr) (ns : List Int) (z : Int), vs = [.ref a, .int z] ∧ 0 ≤ z ∧ SqL K H a (ns.map V.int) ∧ ∀ (p : Addr) (H' : Hp), H p = none → SrcAt H' p → But (fun _ => False) H H' → Q (.ref p) H'
def spValue : Sp := fun vs H Q _ => ∃ a : Addr, vs = [.ref a] ∧ SrcAt H a ∧ ∀ v c st n : Int, Fits v → Q (.int v) (upd H a (src c st n))
def spValues : Sp := fun vs H Q _ => ∃ (a : Addr) (most : Nat), vs = [.ref a, .int most] ∧ most ≤ 100 ∧ SrcAt H a ∧
  ∀ (p : Addr) (ns : List Int) (H' : Hp), H p = none → H' p = some (.lst (ns.map V.int)) → ns.length ≤ most + 1 → (∀ n ∈ ns, Fits n) → SrcAt H' a → But (· = a) H H' → Q (.ref p) H'
end L2.G42

set_option Elab.async false
set_option linter.all false
set_option maxRecDepth 100000
set_option maxHeartbeats 4000000
namespace L2.G42
open PySem PySem.Spec PySem.StrLaws
/-! data: what the draws of any value give -/
/-- G is a part of H -/
def Part (G H : Hp) : Prop := ∀ b o, G b = some o → H b = some o
theorem Part.refl {H : Hp} : Part H H := fun _ _ h => h
theorem Part.trans {G H J : Hp} (a : Part G H) (b : Part H J) : Part G J := fun x o h => b x o (a x o h)
theorem Part.upd {G H : Hp} {a : Addr} {o : HO} (p : Part G H) (h : G a = none) : Part G (upd H a o) := fun x u e => by
  rw [upd_ne (ne_of_none e h)]
  exact p x u e
theorem Part.both {G H : Hp} {a : Addr} {o : HO} (p : Part G H) : Part (L2.upd G a o) (L2.upd H a o) := fun x u e => by
  by_cases h : x = a
  · subst h; rw [upd_same] at e ⊢; exact e
  · rw [upd_ne h] at e ⊢; exact p x u e
theorem Part.add {G H : Hp} {a : Addr} {o : HO} (p : Part G H) (h : H a = some o) : Part (L2.upd G a o) H := fun x u e => by
  by_cases hx : x = a
  · subst hx; rw [upd_same] at e; exact h.trans e
  · rw [upd_ne hx] at e; exact p x u e
theorem Part.but {G H H' : Hp} {S : Addr → Prop} (p : Part G H) (b : But S H H') (h : ∀ x, S x → G x = none) : Part G H' := fun x o e => b x o (p x o e) fun s => by
  rw [h x s] at e
  cases e
theorem Part.grow {G H H' : Hp} (p : Part G H) (b : But (fun _ => False) H H') : Part G H' := p.but b fun _ h => h.elim
theorem Part.free {G H : Hp} (p : Part G H) {a : Addr} (h : H a = none) : G a = none := by
  cases e : G a with
  | none => rfl
  | some o => rw [p a o e] at h; cases h
theorem SqL.part {K : PySem.W.Frag} {G H : Hp} {a : Addr} {xs : List V} (h : SqL K G a xs) (p : Part G H) : SqL K H a xs := by
  rcases h with (h | ⟨o, h⟩) | h
  · exact .inl (.inl (p _ _ h))
  · exact .inl (.inr ⟨o, p _ _ h⟩)
  · exact .inr h
theorem SqT.part {K : PySem.W.Frag} {G H : Hp} {a : Addr} {xs : List V} (h : SqT K G a xs) (p : Part G H) : SqT K H a xs := by
  rcases h with (h | ⟨o, h⟩) | h
  · exact .inl (.inl (p _ _ h))
  · exact .inl (.inr ⟨o, p _ _ h⟩)
  · exact .inr h
mutual
theorem Dp.part {K : PySem.W.Frag} {G H : Hp} (p : Part G H) : ∀ (d : PyData) (v : V), Dp K G v d → Dp K H v d
  | .none, _, h => by cases h; exact .non
  | .bool b, _, h => by cases h; exact .bl b
  | .int i, _, h => by cases h; exact .int i
  | .str x, _, h => by cases h; exact .str x
  | .list ds, _, h => by
    cases h with
    | lst a b => exact .lst (SqL.part a p) (DpAll.part p ds _ b)
  | .tuple ds, _, h => by
    cases h with
    | tup a b => exact .tup (SqT.part a p) (DpAll.part p ds _ b)
  | .dict _, _, h => by cases h
theorem DpAll.part {K : PySem.W.Frag} {G H : Hp} (p : Part G H) : ∀ (ds : List PyData) (vs : List V), DpAll K G vs ds → DpAll K H vs ds
  | [], _, h => by cases h; exact .nil
  | d :: ds, _, h => by
    cases h with
    | cons a b => exact .cons (Dp.part p d _ a) (DpAll.part p ds _ b)
end
theorem DpAll.append {K : PySem.W.Frag} {H : Hp} : ∀ {vs ws : List V} {ds es : List PyData}, DpAll K H vs ds → DpAll K H ws es → DpAll K H (vs ++ ws) (ds ++ es)
  | [], _, [], _, _, b => b
  | [], _, _ :: _, _, a, _ => by cases a
  | _ :: _, _, [], _, a, _ => by cases a
  | _ :: vs, _, _ :: ds, _, a, b => by
    cases a with
    | cons h t => exact .cons h (DpAll.append t b)
theorem DpAll.len {K : PySem.W.Frag} {H : Hp} : ∀ {vs : List V} {ds : List PyData}, DpAll K H vs ds → vs.length = ds.length
  | [], [], _ => rfl
  | [], _ :: _, a => by cases a
  | _ :: _, [], a => by cases a
  | _ :: vs, _ :: ds, a => by
    cases a with
    | cons h t => rw [List.length_cons, List.length_cons, DpAll.len t]
theorem DpAll.at {K : PySem.W.Frag} {H : Hp} : ∀ {vs : List V} {ds : List PyData} {i : Nat} {v : V}, DpAll K H vs ds → vs[i]? = some v → ∃ d, ds[i]? = some d ∧ Dp K H v d
  | [], [], i, v, _, e => by simp at e
  | [], _ :: _, _, _, a, _ => by cases a
  | _ :: _, [], _, _, a, _ => by cases a
  | x :: vs, d :: ds, 0, v, a, e => by
    cases a with
    | cons h t =>
      simp at e
      subst e
      exact ⟨d, rfl, h⟩
  | x :: vs, d :: ds, i + 1, v, a, e => by
    cases a with
    | cons h t => exact DpAll.at (i := i) t (by simpa using e)
theorem DpAll.ints {K : PySem.W.Frag} {H : Hp} : ∀ ns : List Int, DpAll K H (ns.map V.int) (ns.map PyData.int)
  | [] => .nil
  | n :: ns => .cons (.int n) (DpAll.ints ns)
/-- data that can be shown and compared: depth, length of the text -/
structure Gd (n s : Nat) (d : PyData) : Prop where
  sh : d.showable = true
  cl : d.canLay0 = true
  dp : d.depth ≤ n
  ln : d.shown.length ≤ s
  so : PyData.strOk d.shown = true
theorem Gd.mono {n m s t : Nat} {d : PyData} (g : Gd n s d) (a : n ≤ m) (b : s ≤ t) : Gd m t d := ⟨g.sh, g.cl, Nat.le_trans g.dp a, Nat.le_trans g.ln b, g.so⟩
theorem so_app {x y : Str} (a : PyData.strOk x = true) (b : PyData.strOk y = true) : PyData.strOk (x ++ y) = true := by
  unfold PyData.strOk at *
  rw [Array.all_eq_true_iff_forall_mem] at *
  intro c hc
  have : c ∈ x.cps ++ y.cps := hc
  rcases Array.mem_append.mp this with h | h
  · exact a c h
  · exact b c h
theorem so_from : ∀ (ts : List Str) (k : Nat) (acc : Str), (∀ t ∈ ts, PyData.strOk t = true) → PyData.strOk acc = true → PyData.strOk (textFrom k acc ts) = true
  | [], _, _, _, a => a
  | t :: ts, k, acc, h, a => so_from ts (k + 1) _ (fun x hx => h x (List.mem_cons_of_mem _ hx)) (so_app (so_app a (by split <;> decide +kernel)) (h t List.mem_cons_self))
theorem so_join : ∀ ts : List Str, (∀ t ∈ ts, PyData.strOk t = true) → PyData.strOk (Str.join ", " ts) = true
  | [], _ => by decide +kernel
  | [x], h => h x List.mem_cons_self
  | x :: y :: r, h => by
    have ih := so_join (y :: r) fun t ht => h t (List.mem_cons_of_mem _ ht)
    show PyData.strOk (x ++ ", " ++ Str.join ", " (y :: r)) = true
    exact so_app (so_app (h x List.mem_cons_self) (by decide +kernel)) ih
theorem Gd.shownAll {n s : Nat} : ∀ {ds : List PyData}, (∀ d ∈ ds, Gd n s d) → PyData.showableAll ds = true ∧ PyData.canLayAll0 ds = true ∧ PyData.depthAll ds ≤ n ∧ ((PyData.shownAll ds).map (·.length)).sum ≤ ds.length * s ∧ (∀ t ∈ PyData.shownAll ds, PyData.strOk t = true) ∧ (PyData.shownAll ds).length = ds.length
  | [], _ => ⟨rfl, rfl, Nat.zero_le _, by simp [PyData.shownAll], by simp [PyData.shownAll], by simp [PyData.shownAll]⟩
  | d :: ds, h => by
    obtain ⟨h1, h2, h3, h4, h5, h6⟩ := Gd.shownAll (ds := ds) fun x hx => h x (List.mem_cons_of_mem _ hx)
    have g := h d List.mem_cons_self
    have ln := g.ln
    have dp := g.dp
    refine ⟨?_, ?_, ?_, ?_, ?_, ?_⟩
    · rw [PyData.showableAll, g.sh, h1]; rfl
    · rw [PyData.canLayAll0, g.cl, h2]; rfl
    · rw [PyData.depthAll]; omega
    · rw [PyData.shownAll, List.map_cons, List.sum_cons, List.length_cons, Nat.succ_mul]; omega
    · intro t ht
      rw [PyData.shownAll] at ht
      rcases List.mem_cons.mp ht with e | e
      · rw [e]; exact g.so
      · exact h5 t e
    · rw [PyData.shownAll, List.length_cons, List.length_cons, h6]
theorem Gd.list {n s : Nat} {ds : List PyData} (h : ∀ d ∈ ds, Gd n s d) : Gd (n + 1) (ds.length * s + 2 * ds.length + 3) (.list ds) := by
  obtain ⟨h1, h2, h3, h4, h5, h6⟩ := Gd.shownAll h
  refine ⟨by rw [PyData.showable]; exact h1, by rw [PyData.canLay0]; exact h2, by rw [PyData.depth]; omega, ?_, ?_⟩
  · rw [PyData.shown]
    have := listText_len_le (PyData.shownAll ds)
    omega
  · rw [PyData.shown]
    exact so_app (so_from _ _ _ h5 (by decide +kernel)) (by decide +kernel)
theorem Gd.tuple {n s : Nat} {ds : List PyData} (h : ∀ d ∈ ds, Gd n s d) : Gd (n + 1) (ds.length * s + 2 * ds.length + 3) (.tuple ds) := by
  obtain ⟨h1, h2, h3, h4, h5, h6⟩ := Gd.shownAll h
  refine ⟨by rw [PyData.showable]; exact h1, by rw [PyData.canLay0]; exact h2, by rw [PyData.depth]; omega, ?_, ?_⟩
  · rw [PyData.shown]
    have := tupleText_len_le (PyData.shownAll ds)
    omega
  · rw [PyData.shown]
    exact so_app (so_app (by decide +kernel) (so_join _ h5)) (by split <;> decide +kernel)
theorem Gd.shaped {n s : Nat} {d : PyData} (g : Gd n s d) (h : n ≤ 64) : SeqAt.shaped d = true := Bool.and_eq_true_iff.mpr ⟨g.cl, decide_eq_true (Nat.le_trans g.dp h)⟩
theorem Gd.noDict {n s : Nat} {d : PyData} (g : Gd n s d) : d.hasDict = false := PyData.hasDict_of_canLay d g.cl
/-- a leaf, by running -/
def leafOk (d : PyData) : Bool := d.showable && d.canLay0 && decide (d.depth ≤ 0) && decide (d.shown.length ≤ 45) && PyData.strOk d.shown
theorem Gd.leaf {d : PyData} {n s : Nat} (h : leafOk d = true) (hs : 45 ≤ s) : Gd n s d := by
  unfold leafOk at h
  simp only [Bool.and_eq_true, decide_eq_true_eq] at h
  obtain ⟨⟨⟨⟨h1, h2⟩, h3⟩, h4⟩, h5⟩ := h
  exact ⟨h1, h2, Nat.le_trans h3 (Nat.zero_le _), Nat.le_trans h4 hs, h5⟩
/-- how long a text may be, one more level of at most three -/
def wide : Nat → Nat → Nat
  | 0, s => s
  | n + 1, s => 3 * wide n s + 9
theorem wide_le (s : Nat) : ∀ n, s ≤ wide n s
  | 0 => Nat.le_refl _
  | n + 1 => by have := wide_le s n; show s ≤ 3 * wide n s + 9; omega
/-! the type of data -/
def tyn : PyData → String
  | .none => "NoneType"
  | .bool _ => "bool"
  | .int _ => "int"
  | .str _ => "str"
  | .list _ => "list"
  | .tuple _ => "tuple"
  | .dict _ => "dict"
theorem ty_d {K : PySem.W.Frag} {H : Hp} {x : V} {d : PyData} (h : Dp K H x d) : TyX K H x (.type (tyn d)) := by
  cases h with
  | non => exact .base .non
  | bl b => exact .base (.bl b)
  | int i => exact .base (.int i)
  | str s => exact .base (.str s)
  | lst a _ =>
    rcases a with (a | ⟨o, a⟩) | ⟨o, its, n, a, c, _⟩
    · exact .base (.lst a)
    · exact .base (.frz a)
    · exact .kList a c
  | tup a _ =>
    rcases a with (a | ⟨o, a⟩) | ⟨o, its, n, a, c, _⟩
    · exact .base (.tup a)
    · exact .fTuple a
    · exact .kTuple a c
def isNum : PyData → Bool
  | .int _ => true
  | _ => false
instance (n : Int) : Decidable (Fits n) := inferInstanceAs (Decidable (_ ∧ _))
def isVal : PyData → Bool
  | .int n => decide (Fits n)
  | _ => false
def spIsNum (K : PySem.W.Frag) : Sp := fun vs H Q _ => ∃ (x : V) (d : PyData), vs = [x] ∧ Dp K H x d ∧ Q (.bl (isNum d)) H
def spIsVal (K : PySem.W.Frag) : Sp := fun vs H Q _ => ∃ (x : V) (d : PyData), vs = [x] ∧ Dp K H x d ∧ Q (.bl (isVal d)) H
/-! isinstance(x, T), both answers -/
def isInt : PyData → Bool
  | .bool _ => true
  | .int _ => true
  | _ => false
theorem kit_isInt {K : PySem.W.Frag} {d : PyData} (h : ∀ kvs, d ≠ .dict kvs) : PySem.W.kitOne K (.type (tyn d)) (.type "int") = some (isInt d) := by
  cases d with
  | dict kvs => exact absurd rfl (h kvs)
  | none => exact kit_ty (a := "NoneType") (r := false) (by decide +kernel)
  | bool b => exact kit_ty (a := "bool") (r := true) (by decide +kernel)
  | int i => exact kit_ty (a := "int") (r := true) (by decide +kernel)
  | str z => exact kit_ty (a := "str") (r := false) (by decide +kernel)
  | list xs => exact kit_ty (a := "list") (r := false) (by decide +kernel)
  | tuple xs => exact kit_ty (a := "tuple") (r := false) (by decide +kernel)
def isBool : PyData → Bool
  | .bool _ => true
  | _ => false
theorem kit_isBool {K : PySem.W.Frag} {d : PyData} (h : ∀ kvs, d ≠ .dict kvs) : PySem.W.kitOne K (.type (tyn d)) (.type "bool") = some (isBool d) := by
  cases d with
  | dict kvs => exact absurd rfl (h kvs)
  | none => exact kit_ty (a := "NoneType") (r := false) (by decide +kernel)
  | bool b => exact kit_ty (a := "bool") (r := true) (by decide +kernel)
  | int i => exact kit_ty (a := "int") (r := false) (by decide +kernel)
  | str z => exact kit_ty (a := "str") (r := false) (by decide +kernel)
  | list xs => exact kit_ty (a := "list") (r := false) (by decide +kernel)
  | tuple xs => exact kit_ty (a := "tuple") (r := false) (by decide +kernel)
def isStr : PyData → Bool
  | .str _ => true
  | _ => false
theorem kit_isStr {K : PySem.W.Frag} {d : PyData} (h : ∀ kvs, d ≠ .dict kvs) : PySem.W.kitOne K (.type (tyn d)) (.type "str") = some (isStr d) := by
  cases d with
  | dict kvs => exact absurd rfl (h kvs)
  | none => exact kit_ty (a := "NoneType") (r := false) (by decide +kernel)
  | bool b => exact kit_ty (a := "bool") (r := false) (by decide +kernel)
  | int i => exact kit_ty (a := "int") (r := false) (by decide +kernel)
  | str z => exact kit_ty (a := "str") (r := true) (by decide +kernel)
  | list xs => exact kit_ty (a := "list") (r := false) (by decide +kernel)
  | tuple xs => exact kit_ty (a := "tuple") (r := false) (by decide +kernel)
def isTup : PyData → Bool
  | .tuple _ => true
  | _ => false
theorem kit_isTup {K : PySem.W.Frag} {d : PyData} (h : ∀ kvs, d ≠ .dict kvs) : PySem.W.kitOne K (.type (tyn d)) (.type "tuple") = some (isTup d) := by
  cases d with
  | dict kvs => exact absurd rfl (h kvs)
  | none => exact kit_ty (a := "NoneType") (r := false) (by decide +kernel)
  | bool b => exact kit_ty (a := "bool") (r := false) (by decide +kernel)
  | int i => exact kit_ty (a := "int") (r := false) (by decide +kernel)
  | str z => exact kit_ty (a := "str") (r := false) (by decide +kernel)
  | list xs => exact kit_ty (a := "list") (r := false) (by decide +kernel)
  | tuple xs => exact kit_ty (a := "tuple") (r := true) (by decide +kernel)
def isLst : PyData → Bool
  | .list _ => true
  | _ => false
theorem kit_isLst {K : PySem.W.Frag} {d : PyData} (h : ∀ kvs, d ≠ .dict kvs) : PySem.W.kitOne K (.type (tyn d)) (.type "list") = some (isLst d) := by
  cases d with
  | dict kvs => exact absurd rfl (h kvs)
  | none => exact kit_ty (a := "NoneType") (r := false) (by decide +kernel)
  | bool b => exact kit_ty (a := "bool") (r := false) (by decide +kernel)
  | int i => exact kit_ty (a := "int") (r := false) (by decide +kernel)
  | str z => exact kit_ty (a := "str") (r := false) (by decide +kernel)
  | list xs => exact kit_ty (a := "list") (r := true) (by decide +kernel)
  | tuple xs => exact kit_ty (a := "tuple") (r := false) (by decide +kernel)
theorem Dp.nd {K : PySem.W.Frag} {H : Hp} {x : V} {d : PyData} (h : Dp K H x d) : ∀ kvs, d ≠ .dict kvs := fun kvs e => by
  subst e
  cases h
/-- one of some things -/
def spOf (K : PySem.W.Frag) : Sp := fun vs H Q _ => ∃ (a l : Addr) (xs : List V), vs = [.ref a, .ref l] ∧ SrcAt H a ∧ SqL K H l xs ∧ a ≠ l ∧ 0 < xs.length ∧ xs.length ≤ 1000 ∧ ∀ (i : Nat) (v : V) (c st n : Int), xs[i]? = some v → Q v (upd H a (src c st n))
/-- any value -/
def spAny (K : PySem.W.Frag) (dep : Nat) : Sp := fun vs H Q _ => ∃ (a l : Addr) (xs : List V) (ds : List PyData) (G : Hp) (n s : Nat), vs = [.ref a, .ref l, .int dep] ∧ SrcAt H a ∧ SqL K H l xs ∧ a ≠ l ∧ Part G H ∧ G a = none ∧ DpAll K G xs ds ∧ (∀ d ∈ ds, Gd n s d) ∧ 45 ≤ s ∧ 0 < xs.length ∧ xs.length ≤ 1000 ∧
  ∀ (v : V) (d : PyData) (G' H' : Hp), But (· = a) H H' → SrcAt H' a → Part G G' → Part G' H' → (∀ b, H b ≠ none → G b = none → G' b = none) → Dp K G' v d → Gd (n + dep) (wide dep s) d → Q v H'
theorem SqL.but {K : PySem.W.Frag} {S : Addr → Prop} {H H' : Hp} {a : Addr} {xs : List V} (h : SqL K H a xs) (b : But S H H') (n : ¬ S a) : SqL K H' a xs := by
  rcases h with (h | ⟨o, h⟩) | h
  · exact .inl (.inl (b _ _ h n))
  · exact .inl (.inr ⟨o, b _ _ h n⟩)
  · exact .inr h
end L2.G42

set_option Elab.async false
set_option linter.all false
set_option maxRecDepth 100000
set_option maxHeartbeats 4000000
namespace L2.G42
open PySem PySem.Spec
/-! lists of ints, lists of such, compared -/
def dI (xs : List Int) : PyData := .list (xs.map PyData.int)
def dL (xss : List (List Int)) : PyData := .list (xss.map dI)
theorem dpI {K : PySem.W.Frag} {H : Hp} : ∀ xs : List Int, DpAll K H (xs.map V.int) (xs.map PyData.int)
  | [] => .nil
  | x :: xs => .cons (.int x) (dpI xs)
theorem canI : ∀ xs : List Int, PyData.canLayAll0 (xs.map PyData.int) = true
  | [] => by simp [PyData.canLayAll0]
  | x :: xs => by
    rw [List.map_cons, PyData.canLayAll0, canI xs]
    simp [PyData.canLay0]
theorem depI : ∀ xs : List Int, PyData.depthAll (xs.map PyData.int) = 0
  | [] => by simp [PyData.depthAll]
  | x :: xs => by
    rw [List.map_cons, PyData.depthAll, depI xs]
    simp [PyData.depth]
theorem canDI (xs : List Int) : PyData.canLay0 (dI xs) = true := by
  unfold dI
  rw [PyData.canLay0]
  exact canI xs
theorem depDI (xs : List Int) : PyData.depth (dI xs) = 1 := by
  unfold dI
  rw [PyData.depth, depI xs]
theorem canL : ∀ xss : List (List Int), PyData.canLayAll0 (xss.map dI) = true
  | [] => by simp [PyData.canLayAll0]
  | x :: xs => by
    rw [List.map_cons, PyData.canLayAll0, canL xs, canDI]
    rfl
theorem depL : ∀ xss : List (List Int), PyData.depthAll (xss.map dI) ≤ 1
  | [] => by simp [PyData.depthAll]
  | x :: xs => by
    rw [List.map_cons, PyData.depthAll, depDI]
    have := depL xs
    omega
theorem shI (xs : List Int) : SeqAt.shaped (dI xs) = true := by
  unfold SeqAt.shaped
  rw [canDI, depDI]
  rfl
theorem shL (xss : List (List Int)) : SeqAt.shaped (dL xss) = true := by
  have h1 : PyData.canLay0 (dL xss) = true := by
    unfold dL
    rw [PyData.canLay0]
    exact canL xss
  have h2 : PyData.depth (dL xss) ≤ 64 := by
    unfold dL
    rw [PyData.depth]
    have := depL xss
    omega
  unfold SeqAt.shaped
  rw [h1, decide_eq_true h2]
  rfl
/-- two lists of the same ints -/
theorem ne_ints {K : PySem.W.Frag} {H : Hp} {Q : VK} {a b : Addr} {xs : List Int} (ha : SqL K H a (xs.map V.int)) (hb : SqL K H b (xs.map V.int)) (k : Q (.bl false) H) : rNeD K (.ref a) (.ref b) H Q := by
  refine ⟨dI xs, dI xs, .lst ha (dpI xs), .lst hb (dpI xs), shI xs, shI xs, ?_⟩
  rw [SeqAt.eqv_refl _ (canDI xs)]
  exact k
theorem eq_ints {K : PySem.W.Frag} {H : Hp} {Q : VK} {a b : Addr} {xs : List Int} (ha : SqL K H a (xs.map V.int)) (hb : SqL K H b (xs.map V.int)) (k : Q (.bl true) H) : rEqD K (.ref a) (.ref b) H Q := by
  refine ⟨dI xs, dI xs, .lst ha (dpI xs), .lst hb (dpI xs), shI xs, shI xs, ?_⟩
  rw [SeqAt.eqv_refl _ (canDI xs)]
  exact k
/-- the same data are not unequal -/
theorem ne_same {K : PySem.W.Frag} {H : Hp} {Q : VK} {x y : V} {d : PyData} (hx : Dp K H x d) (hy : Dp K H y d) (sh : SeqAt.shaped d = true) (k : Q (.bl false) H) : rNeD K x y H Q := by
  refine ⟨d, d, hx, hy, sh, sh, ?_⟩
  rw [SeqAt.eqv_refl _ (SeqAt.canLay_of_shaped sh)]
  exact k
/-- an own special method, as an operator sees it -/
structure Own1 (P : Program) (w : World) (K : PySem.W.Frag) (mg : Str → Option Value) (base : Heap) (k : Nat) (C : Addr) (m : Str) (sp : Sp) : Prop where
  ex : ∃ (f : Addr) (fd : FuncData) (ps : List Str), FnOk P w K mg base CX0 k f fd ps sp ∧ PySem.W.findIn K (.ref C) m = some (some (.ref f)) ∧ PySem.W.isFn K (.ref f) = true ∧ Binds K fd ps []
theorem cr_lenO {X : Cx} {k j : Nat} {C : Addr} {sp : Sp} (c : Own1 X.prog X.w X.K X.mg X.base k C "__len__" sp) (hr : Room j X.A) (hk : k + 1 ≤ j) : CallR X (.builtin "len") (rLenI C sp E0) :=
  let ⟨_, _, _, F, h1, h2, h3⟩ := c.ex
  call_lenI F h1 h2 h3 (hr.mono hk) pass0
theorem op_inO {X : Cx} {k j : Nat} {C : Addr} {sp : Sp} (c : Own1 X.prog X.w X.K X.mg X.base k C "__contains__" sp) (hr : Room j X.A) (hk : k ≤ j) : OpR X (compareOp .In) (rInI C sp E0 false) :=
  let ⟨_, _, _, F, h1, h2, h3⟩ := c.ex
  op_inI F h1 h2 h3 (hr.mono hk) pass0
/-- a rising list within another one is no longer -/
theorem nd_len : ∀ {l m : List Int}, l.Nodup → (∀ x ∈ l, x ∈ m) → l.length ≤ m.length
  | [], _, _, _ => Nat.zero_le _
  | x :: l, m, nd, h => by
    obtain ⟨n1, n2⟩ := List.nodup_cons.mp nd
    have hx : x ∈ m := h x List.mem_cons_self
    have := nd_len (l := l) (m := m.erase x) n2 fun y hy => (List.mem_erase_of_ne (fun e : y = x => n1 (e ▸ hy))).mpr (h y (List.mem_cons_of_mem _ hy))
    rw [List.length_erase_of_mem hx] at this
    have : 0 < m.length := List.length_pos_of_mem hx
    rw [List.length_cons]
    omega
theorem up_nd {l : List Int} (h : l.Pairwise (· < ·)) : l.Nodup := h.imp fun a => Int.ne_of_lt a
theorem ex_rise (ks : List Int) : ∃ xs : List Int, xs.Pairwise (· < ·) ∧ ∀ x, x ∈ ks ↔ x ∈ xs := by
  induction ks with
  | nil => exact ⟨[], .nil, by simp⟩
  | cons k ks ih =>
    obtain ⟨xs, h1, h2⟩ := ih
    by_cases hk : k ∈ xs
    · refine ⟨xs, h1, fun x => ?_⟩
      rw [List.mem_cons, h2 x]
      exact ⟨fun h => h.elim (fun e => e ▸ hk) id, .inr⟩
    · refine ⟨xs.filter (fun x => decide (x < k)) ++ k :: xs.filter (fun x => decide (k < x)), ?_, fun x => ?_⟩
      · refine List.pairwise_append.mpr ⟨h1.filter _, List.pairwise_cons.mpr ⟨fun y hy => ?_, h1.filter _⟩, fun y hy z hz => ?_⟩
        · simpa using (List.mem_filter.mp hy).2
        · have a : y < k := by simpa using (List.mem_filter.mp hy).2
          rcases List.mem_cons.mp hz with e | e
          · omega
          · have b : k < z := by simpa using (List.mem_filter.mp e).2
            omega
      · rw [List.mem_cons, List.mem_append, List.mem_cons, List.mem_filter, List.mem_filter, h2 x]
        simp only [decide_eq_true_eq]
        constructor
        · rintro (e | e)
          · exact .inr (.inl e)
          · rcases Int.lt_trichotomy x k with l | l | l
            · exact .inl ⟨e, l⟩
            · exact .inr (.inl l)
            · exact .inr (.inr ⟨e, l⟩)
        · rintro (⟨e, _⟩ | e | ⟨e, _⟩)
          · exact .inr e
          · exact .inl e
          · exact .inr e
/-! bags -/
/-- a bag at p: its dict at d holds ks -/
structure BagAt (C : Addr) (H : Hp) (p d : Addr) (sh : Bool) (ks : List Int) : Prop where
  ob : ∃ dx, H p = some (.ins C dx (bfs (.ref d) (.bl sh)))
  dc : H d = some (.dK (kv ks))
/-- the class -/
structure BagC (K : PySem.W.Frag) (C : Addr) : Prop where
  cl : Cls K C
  nI : NoAttr K C "inside"
  nS : NoAttr K C "shared"
theorem BagAt.same {C : Addr} {S : Addr → Prop} {H H' : Hp} {p d : Addr} {sh : Bool} {ks : List Int} (b : BagAt C H p d sh ks) (e : But S H H') (hp : ¬ S p) (hd : ¬ S d) : BagAt C H' p d sh ks := by
  obtain ⟨⟨dx, ob⟩, dc⟩ := b
  exact ⟨⟨dx, e _ _ ob hp⟩, e _ _ dc hd⟩
theorem BagAt.grow {C : Addr} {H H' : Hp} {p d : Addr} {sh : Bool} {ks : List Int} (b : BagAt C H p d sh ks) (e : But (fun _ => False) H H') : BagAt C H' p d sh ks := b.same e id id
/-- what a bag has, asked with any value -/
def hasV (ks : List Int) : PyData → Bool
  | .int n => decide (Fits n) && decide (n ∈ ks)
  | _ => false
theorem ints_of {K : PySem.W.Frag} {H : Hp} : ∀ {xs : List V} {ds : List PyData}, DpAll K H xs ds → (∀ d ∈ ds, isVal d = true) → ∃ ns : List Int, xs = ns.map V.int ∧ ds = ns.map PyData.int ∧ ∀ n ∈ ns, Fits n
  | [], [], _, _ => ⟨[], rfl, rfl, by simp⟩
  | [], _ :: _, h, _ => by cases h
  | _ :: _, [], h, _ => by cases h
  | x :: xs, d :: ds, h, hv => by
    cases h with
    | cons h1 h2 =>
      obtain ⟨ns, e1, e2, e3⟩ := ints_of h2 fun e he => hv e (List.mem_cons_of_mem _ he)
      have v := hv d List.mem_cons_self
      cases h1 with
      | int n =>
        refine ⟨n :: ns, by rw [e1]; rfl, by rw [e2]; rfl, fun m hm => ?_⟩
        rcases List.mem_cons.mp hm with e | e
        · rw [e]; exact of_decide_eq_true v
        · exact e3 m e
      | _ => cases v
def spInit (K : PySem.W.Frag) (C B : Addr) : Sp := fun vs H Q E => ∃ (p dx a : Addr) (xs : List V) (ds : List PyData) (sh : Bool), vs = [.ref p, .ref a, .bl sh] ∧ H p = some (.ins C dx []) ∧ (SqL K H a xs ∨ SqT K H a xs) ∧ DpAll K H xs ds ∧ xs.length ≤ 1000 ∧
  (∀ (i : Nat) (x : V) (d : PyData), xs[i]? = some x → ds[i]? = some d → isVal d = false → (∀ (j : Nat) (e : PyData), j < i → ds[j]? = some e → isVal e = true) → ∀ e, H e = none → E (.ref B) (some e) (upd H e (.xd [("value", x)]))) ∧
  ∀ ns : List Int, xs = ns.map V.int → (∀ n ∈ ns, Fits n) → ds = ns.map PyData.int → ∀ (d : Addr) (H' : Hp), H d = none → BagAt C H' p d sh (insAll [] ns) → But (· = p) H H' → Q .non H'
def spAdd (K : PySem.W.Frag) (C B : Addr) : Sp := fun vs H Q E => ∃ (p d : Addr) (sh : Bool) (ks : List Int) (x : V) (e : PyData), vs = [.ref p, x] ∧ BagAt C H p d sh ks ∧ Dp K H x e ∧ ks.length ≤ 10000 ∧
  (isVal e = false → ∀ q, H q = none → E (.ref B) (some q) (upd H q (.xd [("value", x)]))) ∧ ∀ n : Int, x = .int n → Fits n → Q .non (upd H d (.dK (kv (ins ks n))))
def spHas (K : PySem.W.Frag) (C : Addr) : Sp := fun vs H Q _ => ∃ (p d : Addr) (sh : Bool) (ks : List Int) (x : V) (e : PyData), vs = [.ref p, x] ∧ BagAt C H p d sh ks ∧ Dp K H x e ∧ Q (.bl (hasV ks e)) H
def spLen (C : Addr) : Sp := fun vs H Q _ => ∃ (p d : Addr) (sh : Bool) (ks : List Int), vs = [.ref p] ∧ BagAt C H p d sh ks ∧ Q (.int ks.length) H
def spTold (C : Addr) : Sp := fun vs H Q _ => ∃ (p d : Addr) (sh : Bool) (ks xs : List Int), vs = [.ref p] ∧ BagAt C H p d sh ks ∧ ks.Nodup ∧ xs.Pairwise (· < ·) ∧ (∀ x, x ∈ ks ↔ x ∈ xs) ∧
  ∀ (q : Addr) (H' : Hp), H q = none → H' q = some (.lst (xs.map V.int)) → But (fun _ => False) H H' → Q (.ref q) H'
def spClear (C : Addr) : Sp := fun vs H Q _ => ∃ (p d : Addr) (sh : Bool) (ks : List Int), vs = [.ref p] ∧ BagAt C H p d sh ks ∧ ∀ (d' : Addr) (H' : Hp), H d' = none → BagAt C H' p d' sh [] → But (· = p) H H' → Q .non H'
def spForm : Sp := fun vs H Q _ => ∃ p : Addr, vs = [.ref p] ∧ Q (.str "*") H
/-- a new bag's promise: at x, its dict at d, holding ks -/
def RetB (C : Addr) (sh : Bool) (ks : List Int) (H : Hp) (Q : VK) : Prop := ∀ (x d : Addr) (H' : Hp), H x = none → H d = none → BagAt C H' x d sh ks → But (fun _ => False) H H' → Q (.ref x) H'
theorem RetB.back {C : Addr} {sh : Bool} {ks : List Int} {H H1 : Hp} {Q : VK} (g : But (fun _ => False) H H1) (k : RetB C sh ks H Q) : RetB C sh ks H1 Q := fun x d H' hx hd B bt => k x d H' (g.free hx) (g.free hd) B (g.trans bt)
theorem make_bag {K : PySem.W.Frag} {C B : Addr} {H : Hp} {Q : VK} {E : XK} {l : Addr} {ns : List Int} {sh : Bool} (hl : SqL K H l (ns.map V.int) ∨ SqT K H l (ns.map V.int)) (fit : ∀ n ∈ ns, Fits n) (few : ns.length ≤ 1000) (k : RetB C sh (insAll [] ns) H Q) (x dx : Addr) (hx : H x = none) (hdx : H dx = none) (ne : dx ≠ x) :
    spInit K C B (.ref x :: ([.ref l] ++ [.bl sh])) (upd (upd H dx (.own x)) x (.ins C dx [])) (fun v H2 => v = .non ∧ Q (.ref x) H2) E := by
  have g : But (fun _ => False) H (upd (upd H dx (.own x)) x (.ins C dx [])) := But.fresh (But.new hdx) hx
  have pt : Part H (upd (upd H dx (.own x)) x (.ins C dx [])) := fun b o e => g b o e id
  refine ⟨x, dx, l, ns.map V.int, ns.map PyData.int, sh, rfl, upd_same, hl.elim (fun h => .inl (SqL.part h pt)) (fun h => .inr (SqT.part h pt)), DpAll.ints ns, by rw [List.length_map]; exact few, fun i y d hy hd hv => ?_, fun ms e1 hf e2 d H' hd BA bt => ⟨rfl, ?_⟩⟩
  · rw [List.getElem?_map] at hd
    obtain ⟨n, hn, rfl⟩ := Option.map_eq_some_iff.mp hd
    rw [show isVal (.int n) = true from decide_eq_true (fit n (List.mem_of_getElem? hn))] at hv
    cases hv
  · obtain rfl := map_int_inj e1
    exact k x d H' hx (g.free hd) BA fun b o hb _ => bt b o (g b o hb id) (ne_of_none hb hx)
end L2.G42

set_option Elab.async false
set_option linter.all false
set_option maxRecDepth 100000
set_option maxHeartbeats 4000000
namespace L2.G42
open PySem PySem.Spec
/-! texts as lists of signs -/
abbrev tx (l : List Nat) : Str := ⟨l.toArray⟩
def letter (c : Nat) : Bool := decide (97 ≤ c) && decide (c ≤ 122)
def lettersS : Str := "abcdefghijklmnopqrstuvwxyz"
theorem letters_are : lettersS.cps.toList = (List.range 26).map (97 + ·) := by decide +kernel
theorem letters_mem (c : Nat) : decide (c ∈ lettersS.cps.toList) = letter c := by
  rw [letters_are]
  unfold letter
  rw [Bool.eq_iff_iff, decide_eq_true_eq, Bool.and_eq_true, decide_eq_true_eq, decide_eq_true_eq, List.mem_map]
  constructor
  · rintro ⟨i, hi, rfl⟩
    have := List.mem_range.mp hi
    omega
  · intro h
    exact ⟨c - 97, List.mem_range.mpr (by omega), by omega⟩
/-! tokens -/
theorem dw_le (p : Nat → Bool) : ∀ l : List Nat, (l.dropWhile p).length ≤ l.length
  | [] => Nat.le_refl _
  | c :: l => by
    rw [List.dropWhile_cons]
    split
    · exact Nat.le_succ_of_le (dw_le p l)
    · exact Nat.le_refl _
/-- the tokens of a text whose first sign stands at n: each with its place -/
def toks (n : Nat) : List Nat → List (Nat × List Nat)
  | [] => []
  | c :: r => if letter c = true then (n, c :: r.takeWhile letter) :: toks (n + 1 + (r.takeWhile letter).length) (r.dropWhile letter)
    else if c = 32 then toks (n + 1) r else (n, [c]) :: toks (n + 1) r
termination_by l => l.length
decreasing_by
  · have := dw_le letter r
    simp only [List.length_cons]
    omega
  · simp
  · simp
theorem tw_at : ∀ (k : Nat) {l : List Nat}, (∀ i, i < k → ∃ c, l[i]? = some c ∧ letter c = true) → (∀ c, l[k]? = some c → letter c = false) → l.takeWhile letter = l.take k ∧ l.dropWhile letter = l.drop k
  | 0, [], _, _ => ⟨rfl, rfl⟩
  | 0, c :: l, _, h => by
    have : letter c = false := h c rfl
    rw [List.takeWhile_cons, List.dropWhile_cons, this]
    exact ⟨rfl, rfl⟩
  | k + 1, [], h, _ => by
    obtain ⟨c, e, _⟩ := h 0 (by omega)
    cases e
  | k + 1, c :: l, h, h2 => by
    obtain ⟨c', e, hc⟩ := h 0 (by omega)
    obtain rfl := Option.some.inj e
    obtain ⟨a, b⟩ := tw_at k (l := l) (fun i hi => by simpa using h (i + 1) (by omega)) (fun c hc => h2 c (by simpa using hc))
    rw [List.takeWhile_cons, List.dropWhile_cons, hc, a, b]
    exact ⟨rfl, rfl⟩
/-- a list of tokens in the heap -/
def TokAt (H : Hp) (F : Addr) (ts : List (Nat × List Nat)) : Prop := ∃ rs : List Addr, H F = some (.lst (rs.map V.ref)) ∧ rs.length = ts.length ∧ ∀ (i : Nat) (r : Addr) (t : Nat × List Nat), rs[i]? = some r → ts[i]? = some t → H r = some (.tup [.int t.1, .str (tx t.2)])
theorem TokAt.grow {H H' : Hp} {F : Addr} {ts : List (Nat × List Nat)} (h : TokAt H F ts) (g : But (fun _ => False) H H') : TokAt H' F ts := by
  obtain ⟨rs, h1, h2, h3⟩ := h
  exact ⟨rs, g _ _ h1 id, h2, fun i r t a b => g _ _ (h3 i r t a b) id⟩
def spToks : Sp := fun vs H Q _ => ∃ z : Str, vs = [.str z] ∧ z.length ≤ 90000 ∧ ∀ (F : Addr) (H' : Hp), H F = none → TokAt H' F (toks 0 z.cps.toList) → But (fun _ => False) H H' → Q (.ref F) H'
theorem cut_mid (z : Str) (n e : Nat) (h1 : n ≤ e) (h2 : e ≤ z.cps.toList.length) : cutS z (some (n : Int)) (some (e : Int)) = tx ((z.cps.toList.drop n).take (e - n)) := by
  have hz : z.length = z.cps.toList.length := by
    show z.cps.size = _
    simp
  unfold cutS HT.sIx
  rw [hz]
  simp only [show ¬ ((n : Int) < 0) by omega, show ¬ ((e : Int) < 0) by omega, if_false, Int.toNat_natCast]
  rw [Nat.min_eq_left (by omega : n ≤ z.cps.toList.length), Nat.min_eq_left h2]
end L2.G42

set_option Elab.async false
set_option linter.all false
set_option maxRecDepth 100000
set_option maxHeartbeats 4000000
namespace L2.G42
open PySem PySem.Spec
open _root_.ClX (CRead CVal)
/-! what may be a key -/
def reserved : List Str := ["add", "back", "clear", "copy", "def", "either", "end", "for", "in", "kept", "like", "live", "new", "or", "repeat", "root", "show", "sync", "use"]
def isKey (x : Str) : Bool := (decide (1 ≤ x.length) && decide (x.length ≤ 8)) && (!reserved.contains x && x.cps.toList.all letter)
def spIsKey : Sp := fun vs H Q _ => ∃ x : Str, vs = [.str x] ∧ x.length ≤ 90000 ∧ ∀ H' : Hp, But (fun _ => False) H H' → Q (.bl (isKey x)) H'
theorem inV_str (x : Str) (ys : List Str) : inV (.str x) (ys.map V.str) = ys.contains x := by
  unfold inV
  rw [List.any_map, Bool.eq_iff_iff, List.any_eq_true, List.contains_iff_mem]
  constructor
  · rintro ⟨y, hy, e⟩
    have : y = x := by simpa [eqV] using e
    exact this ▸ hy
  · intro h
    exact ⟨x, h, by simp [eqV]⟩
/-- what the written part says of the names of books -/
structure BkN (K : PySem.W.Frag) (mg : Str → Option Value) : Prop where
  letters : ∃ t, mg "LETTERS" = some (.str lettersS t)
  res : ∃ a, mg "RESERVED" = some (.ref a) ∧ ∀ H : Hp, SqT K H a (reserved.map V.str)
  kinds : ∃ a, mg "BAG_KINDS" = some (.ref a) ∧ ∀ H : Hp, SqT K H a [V.str "*", V.str "!"]
/-! the reader of a book, as a plain function -/
structure Rd where
  toks : List (Nat × List Nat)
  size : Nat
  at_ : Nat
  marks : List (List Key × V)
  nt : Nat
  nb : Nat
def Rd.word (s : Rd) : Str := match s.toks[s.at_]? with
  | some t => tx t.2
  | none => ""
/-- where it refuses -/
def Rd.pos (s : Rd) : Nat := match s.toks[s.at_]? with
  | some t => t.1
  | none => s.size
def Rd.step (s : Rd) : Rd := { s with at_ := s.at_ + 1 }
def rdTake (x : Str) (s : Rd) : Except Nat Rd := if s.word = x then .ok s.step else .error s.pos
def modes : List Str := ["live", "copy", "kept"]
def kinds : List Str := ["*", "!"]
def rdMore (ent : Rd → Except Nat Rd) : Nat → Rd → Except Nat Rd
  | 0, s => if s.word = "," then .error s.pos else .ok s
  | k + 1, s => if s.word = "," then (ent s.step).bind (rdMore ent k) else .ok s
def rdEntry (tab : List Key → Rd → Except Nat Rd) (place : List Key) (s : Rd) : Except Nat Rd :=
  if isKey s.word = false ∨ (valV s.marks (place ++ [Sum.inr s.word])).isSome = true then .error s.pos
  else (rdTake ":" s.step).bind fun s2 => if kinds.contains s2.word = false then tab (place ++ [Sum.inr s.word]) s2
    else if s2.nb = 6 then .error s2.pos else .ok { s2.step with nb := s2.nb + 1, marks := putK s2.marks (place ++ [Sum.inr s.word]) (.str s2.word) }
/-- a table with n levels left -/
def rdTable : Nat → List Key → Rd → Except Nat Rd
  | 0, _, s => .error s.pos
  | n + 1, place, s => if modes.contains s.word = false ∨ s.nt = 6 then .error s.pos
    else (rdTake "{" { s.step with nt := s.nt + 1, marks := putK s.marks place (.str s.word) }).bind fun s2 =>
      (rdEntry (rdTable n) place s2).bind fun s3 => (rdMore (rdEntry (rdTable n) place) 2 s3).bind (rdTake "}")
def rdWhole (s : Rd) : Except Nat Rd := (rdTable 4 [] s).bind fun s2 => if s2.at_ < s2.toks.length then .error s2.pos else .ok s2
def rdStart (z : Str) : Rd := ⟨toks 0 z.cps.toList, z.length, 0, [], 0, 0⟩
/-! the attributes of a reader -/
def rfs (F D : Addr) (s : Rd) : List (Str × V) := [(("tokens" : Str), (.ref F)), (("size" : Str), (.int s.size)), (("next_at" : Str), (.int s.at_)), (("marks" : Str), (.ref D)), (("many_tables" : Str), (.int s.nt)), (("many_bags" : Str), (.int s.nb))]
theorem rn_0_1 : (("tokens" : Str) == "size") = false := by decide +kernel
theorem rm_0_1 : ¬ (("tokens" : Str) = "size") := by decide +kernel
theorem rn_0_2 : (("tokens" : Str) == "next_at") = false := by decide +kernel
theorem rm_0_2 : ¬ (("tokens" : Str) = "next_at") := by decide +kernel
theorem rn_0_3 : (("tokens" : Str) == "marks") = false := by decide +kernel
theorem rm_0_3 : ¬ (("tokens" : Str) = "marks") := by decide +kernel
theorem rn_0_4 : (("tokens" : Str) == "many_tables") = false := by decide +kernel
theorem rm_0_4 : ¬ (("tokens" : Str) = "many_tables") := by decide +kernel
theorem rn_0_5 : (("tokens" : Str) == "many_bags") = false := by decide +kernel
theorem rm_0_5 : ¬ (("tokens" : Str) = "many_bags") := by decide +kernel
theorem rn_1_0 : (("size" : Str) == "tokens") = false := by decide +kernel
theorem rm_1_0 : ¬ (("size" : Str) = "tokens") := by decide +kernel
theorem rn_1_2 : (("size" : Str) == "next_at") = false := by decide +kernel
theorem rm_1_2 : ¬ (("size" : Str) = "next_at") := by decide +kernel
theorem rn_1_3 : (("size" : Str) == "marks") = false := by decide +kernel
theorem rm_1_3 : ¬ (("size" : Str) = "marks") := by decide +kernel
theorem rn_1_4 : (("size" : Str) == "many_tables") = false := by decide +kernel
theorem rm_1_4 : ¬ (("size" : Str) = "many_tables") := by decide +kernel
theorem rn_1_5 : (("size" : Str) == "many_bags") = false := by decide +kernel
theorem rm_1_5 : ¬ (("size" : Str) = "many_bags") := by decide +kernel
theorem rn_2_0 : (("next_at" : Str) == "tokens") = false := by decide +kernel
theorem rm_2_0 : ¬ (("next_at" : Str) = "tokens") := by decide +kernel
theorem rn_2_1 : (("next_at" : Str) == "size") = false := by decide +kernel
theorem rm_2_1 : ¬ (("next_at" : Str) = "size") := by decide +kernel
theorem rn_2_3 : (("next_at" : Str) == "marks") = false := by decide +kernel
theorem rm_2_3 : ¬ (("next_at" : Str) = "marks") := by decide +kernel
theorem rn_2_4 : (("next_at" : Str) == "many_tables") = false := by decide +kernel
theorem rm_2_4 : ¬ (("next_at" : Str) = "many_tables") := by decide +kernel
theorem rn_2_5 : (("next_at" : Str) == "many_bags") = false := by decide +kernel
theorem rm_2_5 : ¬ (("next_at" : Str) = "many_bags") := by decide +kernel
theorem rn_3_0 : (("marks" : Str) == "tokens") = false := by decide +kernel
theorem rm_3_0 : ¬ (("marks" : Str) = "tokens") := by decide +kernel
theorem rn_3_1 : (("marks" : Str) == "size") = false := by decide +kernel
theorem rm_3_1 : ¬ (("marks" : Str) = "size") := by decide +kernel
theorem rn_3_2 : (("marks" : Str) == "next_at") = false := by decide +kernel
theorem rm_3_2 : ¬ (("marks" : Str) = "next_at") := by decide +kernel
theorem rn_3_4 : (("marks" : Str) == "many_tables") = false := by decide +kernel
theorem rm_3_4 : ¬ (("marks" : Str) = "many_tables") := by decide +kernel
theorem rn_3_5 : (("marks" : Str) == "many_bags") = false := by decide +kernel
theorem rm_3_5 : ¬ (("marks" : Str) = "many_bags") := by decide +kernel
theorem rn_4_0 : (("many_tables" : Str) == "tokens") = false := by decide +kernel
theorem rm_4_0 : ¬ (("many_tables" : Str) = "tokens") := by decide +kernel
theorem rn_4_1 : (("many_tables" : Str) == "size") = false := by decide +kernel
theorem rm_4_1 : ¬ (("many_tables" : Str) = "size") := by decide +kernel
theorem rn_4_2 : (("many_tables" : Str) == "next_at") = false := by decide +kernel
theorem rm_4_2 : ¬ (("many_tables" : Str) = "next_at") := by decide +kernel
theorem rn_4_3 : (("many_tables" : Str) == "marks") = false := by decide +kernel
theorem rm_4_3 : ¬ (("many_tables" : Str) = "marks") := by decide +kernel
theorem rn_4_5 : (("many_tables" : Str) == "many_bags") = false := by decide +kernel
theorem rm_4_5 : ¬ (("many_tables" : Str) = "many_bags") := by decide +kernel
theorem rn_5_0 : (("many_bags" : Str) == "tokens") = false := by decide +kernel
theorem rm_5_0 : ¬ (("many_bags" : Str) = "tokens") := by decide +kernel
theorem rn_5_1 : (("many_bags" : Str) == "size") = false := by decide +kernel
theorem rm_5_1 : ¬ (("many_bags" : Str) = "size") := by decide +kernel
theorem rn_5_2 : (("many_bags" : Str) == "next_at") = false := by decide +kernel
theorem rm_5_2 : ¬ (("many_bags" : Str) = "next_at") := by decide +kernel
theorem rn_5_3 : (("many_bags" : Str) == "marks") = false := by decide +kernel
theorem rm_5_3 : ¬ (("many_bags" : Str) = "marks") := by decide +kernel
theorem rn_5_4 : (("many_bags" : Str) == "many_tables") = false := by decide +kernel
theorem rm_5_4 : ¬ (("many_bags" : Str) = "many_tables") := by decide +kernel
theorem rl_tokens (F D : Addr) (s : Rd) : List.lookup ("tokens" : Str) (rfs F D s) = some (.ref F) := by
  unfold rfs
  skip
  simp [List.lookup]
theorem rl_size (F D : Addr) (s : Rd) : List.lookup ("size" : Str) (rfs F D s) = some (.int s.size) := by
  unfold rfs
  rw [List.lookup_cons, rn_1_0]
  simp [List.lookup]
theorem rl_next_at (F D : Addr) (s : Rd) : List.lookup ("next_at" : Str) (rfs F D s) = some (.int s.at_) := by
  unfold rfs
  rw [List.lookup_cons, rn_2_0, List.lookup_cons, rn_2_1]
  simp [List.lookup]
theorem rl_marks (F D : Addr) (s : Rd) : List.lookup ("marks" : Str) (rfs F D s) = some (.ref D) := by
  unfold rfs
  rw [List.lookup_cons, rn_3_0, List.lookup_cons, rn_3_1, List.lookup_cons, rn_3_2]
  simp [List.lookup]
theorem rl_many_tables (F D : Addr) (s : Rd) : List.lookup ("many_tables" : Str) (rfs F D s) = some (.int s.nt) := by
  unfold rfs
  rw [List.lookup_cons, rn_4_0, List.lookup_cons, rn_4_1, List.lookup_cons, rn_4_2, List.lookup_cons, rn_4_3]
  simp [List.lookup]
theorem rl_many_bags (F D : Addr) (s : Rd) : List.lookup ("many_bags" : Str) (rfs F D s) = some (.int s.nb) := by
  unfold rfs
  rw [List.lookup_cons, rn_5_0, List.lookup_cons, rn_5_1, List.lookup_cons, rn_5_2, List.lookup_cons, rn_5_3, List.lookup_cons, rn_5_4]
  simp [List.lookup]
theorem rp_next_at (F D : Addr) (s : Rd) (v : Nat) : putF "next_at" (.int v) (rfs F D s) = rfs F D { s with at_ := v } := by
  unfold rfs
  simp only [putF, if_neg rm_0_2, if_neg rm_1_2]
  simp
theorem rp_many_tables (F D : Addr) (s : Rd) (v : Nat) : putF "many_tables" (.int v) (rfs F D s) = rfs F D { s with nt := v } := by
  unfold rfs
  simp only [putF, if_neg rm_0_4, if_neg rm_1_4, if_neg rm_2_4, if_neg rm_3_4]
  simp
theorem rp_many_bags (F D : Addr) (s : Rd) (v : Nat) : putF "many_bags" (.int v) (rfs F D s) = rfs F D { s with nb := v } := by
  unfold rfs
  simp only [putF, if_neg rm_0_5, if_neg rm_1_5, if_neg rm_2_5, if_neg rm_3_5, if_neg rm_4_5]
  simp
/-- a reader at r: its tokens at F, its marks at D -/
structure RdAt (R : Addr) (H : Hp) (r F D : Addr) (s : Rd) : Prop where
  ob : ∃ dx, H r = some (.ins R dx (rfs F D s))
  tk : TokAt H F s.toks
  ma : H D = some (.dT s.marks)
/-- the class Reader -/
structure RdC (K : PySem.W.Frag) (R : Addr) : Prop where
  cl : Cls K R
  n0 : NoAttr K R "tokens"
  n1 : NoAttr K R "size"
  n2 : NoAttr K R "next_at"
  n3 : NoAttr K R "marks"
  n4 : NoAttr K R "many_tables"
  n5 : NoAttr K R "many_bags"
theorem rfs_len (F D : Addr) (s : Rd) : (rfs F D s).length < 1000 := by
  show 6 < 1000
  decide
theorem rf_start (F D : Addr) (z : Str) : putF "many_bags" (.int 0) (putF "many_tables" (.int 0) (putF "marks" (.ref D) (putF "next_at" (.int 0) (putF "size" (.int z.length) (putF "tokens" (.ref F) []))))) = rfs F D (rdStart z) := by
  simp only [putF, if_neg rm_0_1, if_neg rm_0_2, if_neg rm_1_2, if_neg rm_0_3, if_neg rm_1_3, if_neg rm_2_3, if_neg rm_0_4, if_neg rm_1_4, if_neg rm_2_4, if_neg rm_3_4, if_neg rm_0_5, if_neg rm_1_5, if_neg rm_2_5, if_neg rm_3_5, if_neg rm_4_5]
  rfl
theorem RdAt.grow {R : Addr} {H H' : Hp} {r F D : Addr} {s : Rd} (h : RdAt R H r F D s) (g : But (fun _ => False) H H') : RdAt R H' r F D s := by
  obtain ⟨⟨dx, a⟩, b, c⟩ := h
  exact ⟨⟨dx, g _ _ a id⟩, b.grow g, g _ _ c id⟩
/-- the reader's attributes change -/
theorem RdAt.set {R : Addr} {H : Hp} {r F D dx : Addr} {s s' : Rd} (h : RdAt R H r F D s) (ht : s'.toks = s.toks) (hm : s'.marks = s.marks) : RdAt R (upd H r (.ins R dx (rfs F D s'))) r F D s' := by
  obtain ⟨⟨dy, a⟩, ⟨rs, t1, t2, t3⟩, c⟩ := h
  refine ⟨⟨dx, upd_same⟩, ⟨rs, ?_, by rw [ht]; exact t2, fun i q t h1 h2 => ?_⟩, ?_⟩
  · rw [upd_ne (fun e => by rw [e, a] at t1; cases t1)]
    exact t1
  · rw [ht] at h2
    have b := t3 i q t h1 h2
    rw [upd_ne (fun e => by rw [e, a] at b; cases b)]
    exact b
  · rw [upd_ne (fun e => by rw [e, a] at c; cases c), hm]
    exact c
/-- a mark is put -/
theorem RdAt.put {R : Addr} {H : Hp} {r F D : Addr} {s s' : Rd} (h : RdAt R H r F D s) (hf : rfs F D s' = rfs F D s) (ht : s'.toks = s.toks) : RdAt R (upd H D (.dT s'.marks)) r F D s' := by
  obtain ⟨⟨dy, a⟩, ⟨rs, t1, t2, t3⟩, c⟩ := h
  refine ⟨⟨dy, ?_⟩, ⟨rs, ?_, by rw [ht]; exact t2, fun i q t h1 h2 => ?_⟩, upd_same⟩
  · rw [upd_ne (fun e => by rw [e, c] at a; cases a), hf]
    exact a
  · rw [upd_ne (fun e => by rw [e, c] at t1; cases t1)]
    exact t1
  · rw [ht] at h2
    have b := t3 i q t h1 h2
    rw [upd_ne (fun e => by rw [e, c] at b; cases b)]
    exact b
/-- what a method of the reader leaves -/
def RdEnd (R B r F D : Addr) (res : Except Nat Rd) (H : Hp) (Q : VK) (E : XK) : Prop :=
  (∀ s', res = .ok s' → ∀ H', RdAt R H' r F D s' → But (fun x => x = r ∨ x = D) H H' → Q .non H') ∧
    ∀ p, res = .error p → ∀ (d : Addr) (H' : Hp), H d = none → H' d = some (.xd [("at", .int (p : Nat))]) → But (fun x => x = r ∨ x = D) H H' → E (.ref B) (some d) H'
theorem RdEnd.shift {R B r F D : Addr} {res : Except Nat Rd} {H H1 : Hp} {Q : VK} {E : XK} {s1 : Rd} (k : RdEnd R B r F D res H Q E) (g : But (fun x => x = r ∨ x = D) H H1) (rd : RdAt R H1 r F D s1) : RdEnd R B r F D res H1 Q E := by
  refine ⟨fun s' e H' h bt => k.1 s' e H' h (g.trans bt), fun p e d H' hd hx bt => k.2 p e d H' ?_ hx (g.trans bt)⟩
  cases q : H d with
  | none => rfl
  | some o =>
    by_cases z : d = r ∨ d = D
    · rcases z with z | z
      · obtain ⟨dx, ob⟩ := rd.ob
        rw [z, ob] at hd
        cases hd
      · rw [z, rd.ma] at hd
        cases hd
    · rw [g d o q z] at hd
      cases hd
/-- the first part may refuse -/
theorem RdEnd.err {R B r F D : Addr} {x : Except Nat Rd} {f : Rd → Except Nat Rd} {H : Hp} {Q : VK} {E : XK} (k : RdEnd R B r F D (x.bind f) H Q E) : ∀ p, x = .error p → ∀ (d : Addr) (H' : Hp), H d = none → H' d = some (.xd [("at", .int (p : Nat))]) → But (fun x => x = r ∨ x = D) H H' → E (.ref B) (some d) H' :=
  fun p e d H' hd hx bt => k.2 p (by rw [e]; rfl) d H' hd hx bt
theorem RdEnd.rest {R B r F D : Addr} {x : Except Nat Rd} {f : Rd → Except Nat Rd} {H H1 : Hp} {Q : VK} {E : XK} {s1 : Rd} (k : RdEnd R B r F D (x.bind f) H Q E) (e : x = .ok s1) (g : But (fun x => x = r ∨ x = D) H H1) (rd : RdAt R H1 r F D s1) : RdEnd R B r F D (f s1) H1 Q E := by
  have h : x.bind f = f s1 := by rw [e]; rfl
  rw [h] at k
  exact k.shift g rd
/-! how many marks there are -/
structure Rd.Ok (s : Rd) : Prop where
  m : s.marks.length ≤ s.nt + s.nb
  t : s.nt ≤ 6
  b : s.nb ≤ 6
  w : ∀ t ∈ s.toks, t.2.length ≤ 90000
theorem Rd.Ok.word {s : Rd} (o : s.Ok) : s.word.length ≤ 90000 := by
  unfold Rd.word
  split
  · rename_i t h
    have := o.w t (List.mem_of_getElem? h)
    show t.2.toArray.size ≤ _
    simpa using this
  · decide
theorem putK_len {α : Type} [DecidableEq α] (kvs : List (α × V)) (k : α) (v : V) : (putK kvs k v).length ≤ kvs.length + 1 := by
  unfold putK
  split <;> simp
theorem rdTake_ok {x : Str} {s s' : Rd} (h : rdTake x s = .ok s') (o : s.Ok) : s'.Ok := by
  unfold rdTake at h
  split at h
  · cases h
    exact ⟨o.m, o.t, o.b, o.w⟩
  · cases h
theorem bind_ok {x : Except Nat Rd} {f : Rd → Except Nat Rd} {s' : Rd} (h : x.bind f = .ok s') : ∃ s1, x = .ok s1 ∧ f s1 = .ok s' := by
  cases x with
  | error e => cases h
  | ok s1 => exact ⟨s1, rfl, h⟩
theorem rdEntry_ok {tab : List Key → Rd → Except Nat Rd} (ht : ∀ pl s s', tab pl s = .ok s' → s.Ok → s'.Ok) {pl : List Key} {s s' : Rd} (h : rdEntry tab pl s = .ok s') (o : s.Ok) : s'.Ok := by
  unfold rdEntry at h
  split at h
  · cases h
  · obtain ⟨s2, e2, h⟩ := bind_ok h
    have o2 : s2.Ok := rdTake_ok e2 ⟨o.m, o.t, o.b, o.w⟩
    split at h
    · exact ht _ _ _ h o2
    · split at h
      · cases h
      · rename_i hb
        cases h
        have a := o2.m
        have b := o2.b
        have c := putK_len s2.marks (pl ++ [Sum.inr s.word]) (.str s2.word)
        exact ⟨by show (putK _ _ _).length ≤ s2.nt + (s2.nb + 1); omega, o2.t, by show s2.nb + 1 ≤ 6; omega, o2.w⟩
theorem rdMore_ok {ent : Rd → Except Nat Rd} (he : ∀ s s', ent s = .ok s' → s.Ok → s'.Ok) : ∀ {k : Nat} {s s' : Rd}, rdMore ent k s = .ok s' → s.Ok → s'.Ok
  | 0, s, s', h, o => by
    unfold rdMore at h
    split at h
    · cases h
    · cases h; exact o
  | k + 1, s, s', h, o => by
    unfold rdMore at h
    split at h
    · obtain ⟨s2, e2, h⟩ := bind_ok h
      exact rdMore_ok he h (he _ _ e2 ⟨o.m, o.t, o.b, o.w⟩)
    · cases h; exact o
theorem rdTable_ok : ∀ {n : Nat} {pl : List Key} {s s' : Rd}, rdTable n pl s = .ok s' → s.Ok → s'.Ok
  | 0, _, _, _, h, _ => by cases h
  | n + 1, pl, s, s', h, o => by
    unfold rdTable at h
    split at h
    · cases h
    · rename_i hc
      have hc2 : ¬ s.nt = 6 := fun q => hc (.inr q)
      obtain ⟨s2, e2, h⟩ := bind_ok h
      obtain ⟨s3, e3, h⟩ := bind_ok h
      obtain ⟨s4, e4, h⟩ := bind_ok h
      have a := o.m
      have b := o.t
      have c := putK_len s.marks pl (.str s.word)
      have o2 : s2.Ok := rdTake_ok e2 ⟨by show (putK _ _ _).length ≤ s.nt + 1 + s.nb; omega, by show s.nt + 1 ≤ 6; omega, o.b, o.w⟩
      have ht : ∀ pl s s', rdTable n pl s = .ok s' → s.Ok → s'.Ok := fun pl s s' h o => rdTable_ok h o
      exact rdTake_ok h (rdMore_ok (fun s s' h o => rdEntry_ok ht h o) e4 (rdEntry_ok ht e3 o2))
/-- what the written part says of the constants of Book -/
structure BkC (K : PySem.W.Frag) (mg : Str → Option Value) (BK : Addr) (mc : Value) : Prop where
  gl : mg "Book" = some (.ref BK)
  rd : CRead K BK mc
  modes : ∃ a, CVal K BK mc "MODES" (.ref a) (.ref a) ∧ ∀ H : Hp, SqT K H a (modes.map V.str)
  levels : ∃ t, CVal K BK mc "MOST_LEVELS" (.int 4) (.int 4 t)
  keys : ∃ t, CVal K BK mc "MOST_KEYS" (.int 3) (.int 3 t)
  tables : ∃ t, CVal K BK mc "MOST_TABLES" (.int 6) (.int 6 t)
  bags : ∃ t, CVal K BK mc "MOST_BAGS" (.int 6) (.int 6 t)
def spRT (R B : Addr) (n : Nat) : Sp := fun vs H Q E => ∃ (r F D pl : Addr) (place : List Key) (s : Rd), vs = [.ref r, .ref pl] ∧ RdAt R H r F D s ∧ H pl = some (.tup (place.map kV)) ∧ place.length + n = 4 ∧ s.Ok ∧ RdEnd R B r F D (rdTable n place s) H Q E
def spRE (R B : Addr) (n : Nat) : Sp := fun vs H Q E => ∃ (r F D pl : Addr) (place : List Key) (s : Rd), vs = [.ref r, .ref pl] ∧ RdAt R H r F D s ∧ H pl = some (.tup (place.map kV)) ∧ place.length + 1 + n = 4 ∧ s.Ok ∧ RdEnd R B r F D (rdEntry (rdTable n) place s) H Q E
def spRInit (R : Addr) : Sp := fun vs H Q _ => ∃ (r dx : Addr) (z : Str), vs = [.ref r, .str z] ∧ H r = some (.ins R dx []) ∧ z.length ≤ 90000 ∧ ∀ (F D : Addr) (H' : Hp), H F = none → H D = none → RdAt R H' r F D (rdStart z) → But (· = r) H H' → Q .non H'
def spWord (R : Addr) : Sp := fun vs H Q _ => ∃ (r F D : Addr) (s : Rd), vs = [.ref r] ∧ RdAt R H r F D s ∧ Q (.str s.word) H
def spRefuse (R B : Addr) : Sp := fun vs H _ E => ∃ (r F D : Addr) (s : Rd), vs = [.ref r] ∧ RdAt R H r F D s ∧ ∀ d, H d = none → E (.ref B) (some d) (upd H d (.xd [("at", .int (s.pos : Nat))]))
def spTakeR (R B : Addr) : Sp := fun vs H Q E => ∃ (r F D : Addr) (s : Rd) (x : Str), vs = [.ref r, .str x] ∧ RdAt R H r F D s ∧ RdEnd R B r F D (rdTake x s) H Q E
section
variable {X : Cx} {k j : Nat} {C : Addr} {m : Str} {sp : Sp} {dvs : List V} {pos apos : Pos} {o : Expr} {ta : TE} {W : WX}
theorem pe_mtS0 {pl : Sem Bool} (c : MtX X.prog X.w X.K X.mg X.base k C m sp dvs) (tk : Takes X W) (hr : Room j X.A) (hk : k ≤ j) (he : PE X o ta)
    (ht : eval (.Call (.Attribute o m apos) [] [] pos) X.env = (eval o X.env >>= fun ov => standAt apos.atName >>= fun _ => holding [ov] (getMethod ov m pl) >>= fun q => callWith pos q.1 q.2 (backTo pos (starEach [] X.env)) (backToKw pos (keywordEach [] X.env))) := by rfl) :
    PE X (.Call (.Attribute o m apos) [] [] pos) (tMethS C m sp dvs (WE W) ta tNil) := by
  obtain ⟨f, fd, ps, ds, cl, hm, F, hb, hd⟩ := c.ex
  refine ⟨fun pins s σ H Q I h => ?_⟩
  refine PySem.W.methodCall_KW (pl := pl) (thn (he.run pins s σ H _ I h) fun u s1 ⟨x, H1, I1, rx, a, dx, fs, ex, ea, l, q⟩ => ?_) ht
  subst ex
  obtain rfl : u = Value.ref a := rx
  refine getmeth_ok I1 ea cl hm l ?_
  exact PySem.W.callWith_K0 (first := [.ref a]) I1.kIn hm.kp (run_fnE (us := [.ref a]) (vs := [.ref a]) F (hr.mono hk) hb hd (passAt tk σ) I1 (.cons rfl .nil) q)
end
theorem rl_no {m : Str} (F D : Addr) (s : Rd) (h : ["tokens", "size", "next_at", "marks", "many_tables", "many_bags"].all (fun f => !(m == Str.ofString f)) = true) : List.lookup m (rfs F D s) = none := by
  simp only [List.all_cons, List.all_nil, Bool.and_true, Bool.and_eq_true, Bool.not_eq_true'] at h
  obtain ⟨h0, h1, h2, h3, h4, h5⟩ := h
  unfold rfs
  rw [List.lookup_cons, h0, List.lookup_cons, h1, List.lookup_cons, h2, List.lookup_cons, h3, List.lookup_cons, h4, List.lookup_cons, h5]
  rfl
end L2.G42

set_option Elab.async false
set_option linter.all false
set_option maxRecDepth 100000
set_option maxHeartbeats 4000000
namespace L2.G42
open PySem PySem.Spec PyProof.Rows
/-! the order of texts, of tuples of texts -/
def ltS (x y : Str) : Bool := decide (x.cps.toList < y.cps.toList)
def lexS : List Str → List Str → Bool
  | [], [] => false
  | [], _ :: _ => true
  | _ :: _, [] => false
  | x :: xs, y :: ys => if x = y then lexS xs ys else ltS x y
inductive StrsAre : List Value → List Str → Prop
  | nil : StrsAre [] []
  | cons (x : Str) (t : Tok) {vs : List Value} {xs : List Str} (h : StrsAre vs xs) : StrsAre (.str x t :: vs) (x :: xs)
theorem StrsAre.length {vs : List Value} {xs : List Str} (h : StrsAre vs xs) : vs.length = xs.length := by
  induction h with
  | nil => rfl
  | cons x t h ih => simp [ih]
theorem rcLt_str (A : Around) (s : Shared) (x : Str) (t : Tok) (y : Str) (u : Tok) (prog : Program) (w : World) (E : Value → Shared → Prop) (Q : Value → Shared → Prop) (h : Q (.bool (ltS x y)) s) :
    wpAny (model prog w) A (richCompare .Lt (.str x t) (.str y u)) Q E s :=
  (PyProof.Rows.lt_str h : wpAny (model prog w) A (compareOp .Lt (.str x t) (.str y u)) Q E s)
section
open PySem.SeqAt
open PySem.AutoSeq1 (wpAny_loadPart')
open PySem.MeetsSeq PySem.MeetsSeq2 PySem.MeetsSeq3
theorem tuple_lt_strs (l b : Addr) (items items2 : Array Value) (n n2 : Nat) (dd dd2 : Option Addr) (sl sl2 : Array (Option Value)) (ns ms : List Str) (hi : StrsAre items.toList ns) (hj : StrsAre items2.toList ms) :
    Meets (Builtin.«tuple.__lt__» ⟨[.ref l, .ref b], []⟩)
      (fun _ R s => s.heap.get? l = some { cls := .type "tuple", dict := dd, data := .seq items n, slots := sl } ∧ s.heap.get? b = some { cls := .type "tuple", dict := dd2, data := .seq items2 n2, slots := sl2 } ∧
        R (.ok (.ret (.bool (lexS ns ms)))) s) :=
  .of_wp fun prog w A R s h => by
    obtain ⟨hp, g, d, tk, os⟩ := s; obtain ⟨hl, hb, h⟩ := h
    have f2 := AutoSeq1.sub_tuple_tuple
    have z1 : items.size = ns.length := by rw [← hi.length]; simp
    have z2 : items2.size = ms.length := by rw [← hj.length]; simp
    wp_walk using wpAny_loadPart' hl, wpAny_loadPart' hb, wpAny_forIn_list _ (fun rest b s' => b.1 = none ∧ s' = ⟨hp, g, d, tk, os⟩ ∧ ∃ (vs ws : List Value) (ns' ms' : List Str), rest = vs.zip ws ∧
      StrsAre vs ns' ∧ StrsAre ws ms' ∧ ns'.length + items2.size = ms'.length + items.size ∧ R (.ok (.ret (.bool (lexS ns' ms')))) ⟨hp, g, d, tk, os⟩) _
    case turn =>
      rintro ⟨y, x⟩ rest b s' ⟨hb', rfl, vs, ws, ns', ms', hz, hvi, hwi, hlen, hR⟩
      cases hvi with
      | nil => rw [List.zip_nil_left] at hz; cases hz
      | cons a t hvi' =>
        cases hwi with
        | nil => rw [List.zip_nil_right] at hz; cases hz
        | cons c u hwi' =>
          rw [List.zip_cons_cons] at hz
          injection hz with hyx hrest
          injection hyx with hy hx
          subst hy hx
          simp only [List.length_cons] at hlen
          have he := SeqAt.EqAt.str_str (A := A.in1) (s := ⟨hp, g, d, tk, os⟩) a t c u
          refine wpAny_bind (he prog w _ _ ?_)
          cases e : (a == c) with
          | true =>
            have ac : a = c := by simpa using e
            have hR' : R (.ok (.ret (.bool (if a = c then lexS _ _ else ltS a c)))) ⟨hp, g, d, tk, os⟩ := hR
            rw [if_pos ac] at hR'
            wp_walk
            exact ⟨rfl, rfl, _, _, _, _, hrest, hvi', hwi', by omega, hR'⟩
          | false =>
            have ac : ¬ a = c := by simpa using e
            have hR' : R (.ok (.ret (.bool (if a = c then lexS _ _ else ltS a c)))) ⟨hp, g, d, tk, os⟩ := hR
            rw [if_neg ac] at hR'
            have hri := rcLt_str A.in1 ⟨hp, g, d, tk, os⟩ a t c u prog w
            wp_walk using hri
            exact ⟨_, rfl, by simpa using hR'⟩
    case fin =>
      rintro ⟨b1, b2⟩ s' ⟨hb', rfl, vs, ws, ns', ms', hz, hvi, hwi, hlen, hR⟩
      simp only at hb'
      subst hb'
      have hv : lexS ns' ms' = decide (items.size < items2.size) := by
        cases hvi with
        | nil =>
          cases hwi with
          | nil =>
            simp only [List.length_nil] at hlen
            exact (decide_eq_false (by omega)).symm
          | cons c u hw =>
            simp only [List.length_nil, List.length_cons] at hlen
            exact (decide_eq_true (by omega)).symm
        | cons a t hv =>
          cases hwi with
          | nil =>
            simp only [List.length_nil, List.length_cons] at hlen
            exact (decide_eq_false (by omega)).symm
          | cons c u hw =>
            rw [List.zip_cons_cons] at hz
            cases hz
      rw [hv] at hR
      wp_walk
      exact ⟨_, rfl, by simpa [Builtin.Tuple.tupleCompareSizes] using hR⟩
    case h =>
      exact ⟨rfl, rfl, items.toList, items2.toList, ns, ms, rfl, hi, hj, by omega, h⟩
end
section
variable {prog : Program} {w : World} {A : Around} {E : Value → Shared → Prop} {s : Shared}
theorem lt_tupStrs {l b : Addr} {items items2 : Array Value} {ns ms : List Str} {Q : Value → Shared → Prop} (hl : IsTup s.heap l items) (hb : IsTup s.heap b items2) (hi : StrsAre items.toList ns) (hj : StrsAre items2.toList ms)
    (hu : A.units < cLine) (h : Q (.bool (lexS ns ms)) s) : wpAny (model prog w) A (compareOp .Lt (.ref l) (.ref b)) Q E s := by
  obtain ⟨⟨cls, dd, data, sl⟩, ho, hc, n, hd⟩ := id hl
  obtain ⟨⟨cls2, dd2, data2, sl2⟩, ho2, hc2, n2, hd2⟩ := id hb
  simp only at hc hd hc2 hd2
  subst hc hd hc2 hd2
  exact richCompare_meets_room (op := .Lt) ⟨_, ho, rfl⟩ ⟨_, ho2, rfl⟩ PySem.F.slot_tuple_lt PySem.F.entry_tuple_lt (PySem.F.args_tuple_lt_2 _ _) (tuple_lt_strs l b items items2 n n2 dd dd2 sl sl2 ns ms hi hj)
    ⟨ho, ho2, show Value.bool (lexS ns ms) ≠ Value.notImplemented ∧ Q (.bool (lexS ns ms)) s from ⟨(fun x => nomatch x), h⟩⟩ hu
end
end L2.G42

set_option Elab.async false
set_option linter.all false
set_option maxRecDepth 100000
set_option maxHeartbeats 4000000
namespace L2.G42
open PySem PySem.Spec PyProof.Rows
section
variable {prog : Program} {w : World} {A : Around} {E : Value → Shared → Prop} {s : Shared}
theorem oneLt_tupStrs {l b : Addr} {items items2 : Array Value} {ns ms : List Str} {Q : Bool → Shared → Prop} (hl : IsTup s.heap l items) (hb : IsTup s.heap b items2) (hi : StrsAre items.toList ns) (hj : StrsAre items2.toList ms)
    (hu : A.units < cLine) (h : Q (lexS ns ms) s) : wpAny (model prog w) A (oneLt' true (.ref l) (.ref b)) Q E s := by
  obtain ⟨⟨cls, dd, data, sl⟩, ho, hc, n, hd⟩ := id hl
  obtain ⟨⟨cls2, dd2, data2, sl2⟩, ho2, hc2, n2, hd2⟩ := id hb
  simp only at hc hd hc2 hd2
  subst hc hd hc2 hd2
  rw [oneLt'_eq]
  simp only [if_true]
  refine wpAny_bind (wpAny_cRoomFor hu ?_)
  refine wpAny_bind (wpAny_callSpecialIfBound?_slot (T := "tuple") ⟨_, ho, rfl⟩ PySem.F.slot_tuple_lt (call_meets PySem.F.slot_tuple_lt ⟨_, ho, rfl⟩ PySem.F.entry_tuple_lt (PySem.F.args_tuple_lt_2 _ _) (tuple_lt_strs l b items items2 n n2 dd dd2 sl sl2 ns ms hi hj) ⟨ho, ho2, ?_⟩))
  exact wpAny_truthy_bool h
end
end L2.G42

set_option Elab.async false
set_option linter.all false
set_option maxRecDepth 100000
set_option maxHeartbeats 4000000
namespace L2.G42
open PySem PySem.Spec PyProof.Rows PySem.W
/-- tuples, each with its first item, if it has one -/
def Tups (h : Heap) : List Value → List (Option Value) → Prop
  | [], [] => True
  | v :: vs, f :: fs => (∃ a o xs n, v = .ref a ∧ h.get? a = some o ∧ o.cls = .type "tuple" ∧ o.data = .seq xs n ∧ xs[0]? = f) ∧ Tups h vs fs
  | _, _ => False
section
variable {M : Model} {A : Around} {E : Value → Shared → Prop} {s : Shared}
theorem tups_firsts : ∀ (vs : List Value) (fs : List (Option Value)) {Q : List (Option Value) → Shared → Prop}, Tups s.heap vs fs → Q fs s → wpAny M A (vs.mapM firstOfTuple') Q E s
  | [], [], _, _, h => by rw [List.mapM_nil]; exact wpAny_pure h
  | [], _ :: _, _, t, _ => t.elim
  | _ :: _, [], _, t, _ => t.elim
  | v :: vs, f :: fs, Q, t, h => by
    obtain ⟨⟨a, o, xs, n, rfl, ho, hc, hd, hf⟩, t⟩ := t
    rw [List.mapM_cons]
    refine wpAny_bind ?_
    rw [kas_first_eq]
    refine wpAny_bind (Looks.here (show Looks M s.heap (typeOf (.ref a)) o.cls from (Looks.ld ho).andThen .now) ?_)
    rw [hc, if_neg (by first | decide | simp)]
    refine wpAny_bind (listItems_at ho hd (wpAny_pure ?_))
    rw [hf]
    exact wpAny_bind (tups_firsts vs fs (Q := fun bs s' => wpAny M A (pure (f :: bs)) Q E s') t (wpAny_pure h))
theorem tups_types : ∀ (vs : List Value) (fs : List (Option Value)), Tups s.heap vs fs → ∀ v ∈ vs, Looks M s.heap (typeOf v) (.type "tuple")
  | [], _, _, v, hv => by cases hv
  | _ :: _, [], t, _, _ => t.elim
  | v :: vs, f :: fs, t, u, hu => by
    obtain ⟨⟨a, o, xs, n, rfl, ho, hc, hd, hf⟩, t⟩ := t
    rcases List.mem_cons.mp hu with e | e
    · subst e
      have h : Looks M s.heap (typeOf (.ref a)) o.cls := (Looks.ld ho).andThen .now
      rw [hc] at h
      exact h
    · exact tups_types vs fs t u e
/-- the kind of keys: tuples, the first of them empty -/
theorem tups_kind {vs : List Value} {fs : List (Option Value)} {Q : SortKind → Shared → Prop} (t : Tups s.heap vs (none :: fs)) (h : Q oneType' s) : wpAny M A (keyKind' vs.toArray) Q E s := by
  rw [kat_kind_eq, List.mapM_toArray, map_eq_pure_bind]
  refine wpAny_bind (wpAny_bind (tups_firsts vs _ t (wpAny_pure ?_)))
  have h1 : ((none :: fs).toArray.all fun x => x.isSome) = false := by simp
  rw [h1, if_neg (by decide)]
  have h2 : (((none :: fs).toArray)[0]?.bind id).isSome = false := by simp
  rw [h2, if_neg (by decide)]
  have ty := tups_types (M := M) vs _ t
  rw [oneTypeOnly'_eq, List.mapM_toArray, map_eq_pure_bind]
  refine wpAny_bind (wpAny_bind (wpAny_bind (kas_mapM (r := .type "tuple") _ (fun v hv Q' hq => (ty v hv).here hq) (wpAny_pure ?_))))
  obtain ⟨v, rest, rfl⟩ : ∃ v rest, vs = v :: rest := by
    cases vs with
    | nil => exact t.elim
    | cons v rest => exact ⟨v, rest, rfl⟩
  have hall2 : ((List.map (fun _ => Value.type "tuple") (v :: rest)).toArray.all fun x => x == Value.type "tuple") = true := by
    simp only [List.all_toArray, List.all_map, List.all_eq_true]
    intro _ _
    rfl
  have h0 : (List.map (fun _ => Value.type "tuple") (v :: rest)).toArray[0]? = some (Value.type "tuple") := by simp
  rw [h0]
  simp only [hall2, if_true]
  refine wpAny_pure ?_
  simp only [Option.isSome_some, if_true]
  exact wpAny_pure h
end
end L2.G42

set_option Elab.async false
set_option linter.all false
set_option maxRecDepth 100000
set_option maxHeartbeats 4000000
namespace L2.G42
open PySem PySem.Spec PyProof.Rows
/-! sorted(list of tuples of texts), the empty one ahead -/
abbrev ltT (k : V → List Str) (x y : V) : Bool := lexS (k x) (k y)
theorem ltS_irrefl (x : Str) : ltS x x = false := by
  unfold ltS
  exact decide_eq_false (List.lt_irrefl _)
theorem ltS_asymm {x y : Str} (h : ltS x y = true) : ltS y x = false := by
  unfold ltS at *
  exact decide_eq_false (List.lt_asymm (of_decide_eq_true h))
theorem str_ext {x y : Str} (h : x.cps.toList = y.cps.toList) : x = y := by
  cases x with
  | mk a =>
    cases y with
    | mk b =>
      congr 1
      exact Array.toList_inj.mp h
theorem ltS_conn {x y : Str} (h1 : ltS x y = false) (h2 : ltS y x = false) : x = y := by
  unfold ltS at *
  have a : ¬ x.cps.toList < y.cps.toList := of_decide_eq_false h1
  have b : ¬ y.cps.toList < x.cps.toList := of_decide_eq_false h2
  exact str_ext (List.le_antisymm (by simpa using b) (by simpa using a))
theorem ltS_trans {x y z : Str} (h1 : ltS x y = true) (h2 : ltS y z = true) : ltS x z = true := by
  unfold ltS at *
  exact decide_eq_true (List.lt_trans (of_decide_eq_true h1) (of_decide_eq_true h2))
theorem lexS_irrefl : ∀ xs : List Str, lexS xs xs = false
  | [] => rfl
  | x :: xs => by
    show (if x = x then lexS xs xs else ltS x x) = false
    rw [if_pos rfl]
    exact lexS_irrefl xs
theorem lexS_asymm : ∀ {xs ys : List Str}, lexS xs ys = true → lexS ys xs = false
  | [], [], h => by cases h
  | [], _ :: _, _ => rfl
  | _ :: _, [], h => by cases h
  | x :: xs, y :: ys, h => by
    have h' : (if x = y then lexS xs ys else ltS x y) = true := h
    show (if y = x then lexS ys xs else ltS y x) = false
    by_cases e : x = y
    · rw [if_pos e] at h'
      rw [if_pos e.symm]
      exact lexS_asymm h'
    · rw [if_neg e] at h'
      rw [if_neg fun q => e q.symm]
      exact ltS_asymm h'
end L2.G42

set_option Elab.async false
set_option linter.all false
set_option maxRecDepth 100000
set_option maxHeartbeats 4000000
namespace L2.G42
open PySem PySem.Spec PyProof.Rows Srt
theorem lexS_conn : ∀ {xs ys : List Str}, lexS xs ys = false → lexS ys xs = false → xs = ys
  | [], [], _, _ => rfl
  | [], _ :: _, h, _ => by cases h
  | _ :: _, [], _, h => by cases h
  | x :: xs, y :: ys, h1, h2 => by
    have h1' : (if x = y then lexS xs ys else ltS x y) = false := h1
    have h2' : (if y = x then lexS ys xs else ltS y x) = false := h2
    by_cases e : x = y
    · subst e
      rw [if_pos rfl] at h1' h2'
      rw [lexS_conn h1' h2']
    · rw [if_neg e] at h1'
      rw [if_neg (fun q => e q.symm)] at h2'
      exact absurd (ltS_conn h1' h2') e
theorem lexS_trans : ∀ {xs ys zs : List Str}, lexS xs ys = true → lexS ys zs = true → lexS xs zs = true
  | [], [], _, h, _ => by cases h
  | [], _ :: _, [], _, h => by cases h
  | [], _ :: _, _ :: _, _, _ => rfl
  | _ :: _, [], _, h, _ => by cases h
  | _ :: _, _ :: _, [], _, h => by cases h
  | x :: xs, y :: ys, z :: zs, h1, h2 => by
    have h1' : (if x = y then lexS xs ys else ltS x y) = true := h1
    have h2' : (if y = z then lexS ys zs else ltS y z) = true := h2
    show (if x = z then lexS xs zs else ltS x z) = true
    by_cases e : x = y
    · subst e
      rw [if_pos rfl] at h1'
      by_cases e2 : x = z
      · subst e2
        rw [if_pos rfl] at h2' ⊢
        exact lexS_trans h1' h2'
      · rw [if_neg e2] at h2' ⊢
        exact h2'
    · rw [if_neg e] at h1'
      by_cases e2 : y = z
      · subst e2
        rw [if_neg e]
        exact h1'
      · rw [if_neg e2] at h2'
        have h3 := ltS_trans h1' h2'
        by_cases e3 : x = z
        · subst e3
          rw [ltS_irrefl] at h3
          cases h3
        · rw [if_neg e3]
          exact h3
/-- a total order carried over a function -/
theorem swo_of {α β : Type} {lt : β → β → Bool} (as : ∀ {x y}, lt x y = true → lt y x = false) (cn : ∀ {x y}, lt x y = false → lt y x = false → x = y) (tr : ∀ {x y z}, lt x y = true → lt y z = true → lt x z = true) (k : α → β) : SrtO.Swo fun x y => lt (k x) (k y) := by
  refine ⟨fun x y h => as h, fun x y z h1 h2 => ?_⟩
  cases e : lt (k z) (k x) with
  | false => rfl
  | true =>
    cases f : lt (k x) (k y) with
    | false =>
      have := cn f h1
      simp only [this] at e
      rw [h2] at e
      cases e
    | true =>
      have := tr e f
      rw [h2] at this
      cases this
theorem swo_lexS {α : Type} (k : α → List Str) : SrtO.Swo fun x y => lexS (k x) (k y) := swo_of lexS_asymm lexS_conn lexS_trans k
theorem swo_ltS {α : Type} (k : α → Str) : SrtO.Swo fun x y => ltS (k x) (k y) := swo_of ltS_asymm ltS_conn ltS_trans k
/-- a tuple of texts in a heap of the model -/
def TupS (h : Heap) (v : Value) (xs : List Str) : Prop := ∃ t items, v = .ref t ∧ IsTup h t items ∧ StrsAre items.toList xs
theorem TupS.keeps {h h' : Heap} {v : Value} {xs : List Str} (T : TupS h v xs) (k : ∀ b o, h.get? b = some o → o.cls = .type "tuple" → h'.get? b = some o) : TupS h' v xs := by
  obtain ⟨t, items, rfl, ⟨o, ho, hc, n, hd⟩, hs⟩ := T
  exact ⟨t, items, rfl, ⟨o, k _ _ ho hc, hc, n, hd⟩, hs⟩
theorem tups_of {h : Heap} : ∀ {vs : List Value} {k : Value → List Str}, (∀ v ∈ vs, TupS h v (k v)) → ∃ fs, Tups h vs fs ∧ ∀ v rest, vs = v :: rest → k v = [] → ∃ gs, fs = none :: gs
  | [], _, _ => ⟨[], trivial, fun v rest e => by cases e⟩
  | v :: vs, k, hp => by
    obtain ⟨fs, h1, _⟩ := tups_of (vs := vs) (k := k) fun u hu => hp u (List.mem_cons_of_mem _ hu)
    obtain ⟨t, items, rfl, ⟨o, ho, hc, n, hd⟩, hs⟩ := hp v List.mem_cons_self
    refine ⟨items[0]? :: fs, ⟨⟨t, o, items, n, rfl, ho, hc, hd, rfl⟩, h1⟩, fun u rest e hk => ⟨fs, ?_⟩⟩
    cases e
    rw [hk] at hs
    have : items.toList = [] := by
      cases hs' : items.toList with
      | nil => rfl
      | cons a b => rw [hs'] at hs; cases hs
    have e2 : items = #[] := Array.toList_inj.mp this
    rw [e2]
    rfl
section
variable {prog : Program} {w : World} {A : Around} {E : Value → Shared → Prop} {s : Shared}
theorem tups_cmp {vs : List Value} {k : Value → List Str} (hp : ∀ v ∈ vs, TupS s.heap v (k v)) (hu : A.units < cLine) : SrtO.Cmp prog w A s oneType' (fun p => p.1 ∈ vs) (SrtO.lt2 fun v u => lexS (k v) (k u)) := by
  intro p q hm hm'
  have h1 := hp _ hm
  have h2 := hp _ hm'
  show wpAny (model prog w) A (keyLt' oneType' p.1 q.1) (fun r s' => s' = s ∧ r = lexS (k p.1) (k q.1)) (fun _ _ => False) s
  generalize k p.1 = x at h1 ⊢
  generalize k q.1 = y at h2 ⊢
  obtain ⟨t, items, e, ht, hs⟩ := h1
  obtain ⟨t', items', e', ht', hs'⟩ := h2
  rw [e, e', keyLt'_oneType]
  exact oneLt_tupStrs ht ht' hs hs' hu ⟨rfl, rfl⟩
theorem tups_sortableO {a : Addr} {vs : List Value} {k : Value → List Str} (hp : ∀ v ∈ vs, TupS s.heap v (k v)) (h0 : ∃ v rest, vs = v :: rest ∧ k v = []) (ha : ∀ o, s.heap.get? a = some o → o.cls ≠ .type "tuple") (hu : A.units < cLine) : SrtO.SortableO prog w A s a vs fun v u => lexS (k v) (k u) := by
  intro h' keep
  have hp' : ∀ v ∈ vs, TupS h' v (k v) := fun v hm => (hp v hm).keeps fun b o e c => keep b o (fun z => by subst z; exact ha o e c) e
  obtain ⟨fs, h1, h2⟩ := tups_of hp'
  obtain ⟨v, rest, e, hk⟩ := h0
  obtain ⟨gs, rfl⟩ := h2 v rest e hk
  exact ⟨oneType', fun Q E hq => tups_kind (s := { s with heap := h' }) h1 hq, tups_cmp (s := { s with heap := h' }) hp' hu⟩
theorem sorted_tups {l : Addr} {vs : List Value} {k : Value → List Str} {Q : Value → Shared → Prop} (hl : s.heap.IsList l vs.toArray) (hz : vs.length ≤ sizeLine) (hp : ∀ v ∈ vs, TupS s.heap v (k v)) (h0 : ∃ v rest, vs = v :: rest ∧ k v = []) (hu : A.units + 2 < cLine)
    (h : ∀ (h' : Heap) (d : Addr) (out : List Value), SrtO.Srtd (fun v u => lexS (k v) (k u)) out → SrtO.Stb (fun v u => lexS (k v) (k u)) out vs → (∀ b o, s.heap.get? b = some o → h'.get? b = some o) → s.heap.objs.size ≤ d → (∃ n, h'.get? d = some (seqObj "list" out.toArray n)) → Q (.ref d) { s with heap := h' }) :
    wpAny (model prog w) A (call (.builtin "sorted") [.ref l]) Q E s := by
  refine SrtO.sorted_ord (swo_lexS k) hl hz (fun h2 h₁ a ha kk => ?_) fun out hs hb => ?_
  · refine tups_sortableO (s := { s with heap := h₁ }) (fun v hm => (hp v hm).keeps fun b o e _ => (kk b o e).2) h0 (fun o e => ?_) (by show A.units + 1 + 1 < cLine; omega)
    have e' : some o = some (seqObj "list" vs.toArray 0) := e.symm.trans ha
    cases e'
    intro c
    exact absurd (Value.type.inj c) (by decide)
  · exact h _ _ out hs hb (fun b o e => sortedAll_old e) (Nat.le_succ _) (sortedAll_at s.heap vs out.toArray)
end
theorem strs_are : ∀ {xs : List Str} {us : List Value}, Vals (xs.map V.str) us → StrsAre us xs
  | [], _, .nil => .nil
  | x :: xs, _ :: us, .cons r t => by
    obtain ⟨k, rfl⟩ := r
    exact .cons x k (strs_are t)
/-- sorted(xs), xs a list of tuples of texts, the first of them empty -/
def rSortedTS (K : PySem.W.Frag) : List V → Hp → VK → Prop := fun vs H Q => ∃ (a : Addr) (xs : List V) (k : V → List Str), vs = [V.ref a] ∧ SqL K H a xs ∧ (∀ x ∈ xs, ∃ t, x = V.ref t ∧ H t = some (.tup ((k x).map V.str))) ∧ (∃ x rest, xs = x :: rest ∧ k x = []) ∧
  ∀ ys p, SrtO.Srtd (ltT k) ys → SrtO.Stb (ltT k) ys xs → H p = none → Q (.ref p) (upd H p (.lst ys))
section
variable {X : Cx}
theorem cr_sortedTS (hu : X.A.units + 64 < cLine) : CallR X (.builtin "sorted") (rSortedTS X.K) := by
  intro pins s σ H vs us Q I r h
  obtain ⟨a, xs, k, rfl, hs, hx, ⟨x0, xr, e0, k0⟩, q⟩ := h
  obtain ⟨its, rv, hl, hz⟩ := I.list hs
  obtain ⟨u, rfl, ru⟩ := vals1 r
  obtain rfl : u = Value.ref a := ru
  obtain ⟨e1, e2⟩ := refs_back rv fun x m => by
    obtain ⟨t, e, _⟩ := hx x m
    exact ⟨t, e⟩
  refine sorted_tups (k := fun u => k (backV u)) hl.isList (by rw [← rv.length]; exact hz) (fun v hv => ?_) ?_ (by omega) fun h' d out h1 h2 kp hd hn => ?_
  · obtain ⟨t, rfl⟩ := e2 v hv
    have hm : V.ref t ∈ xs := by rw [e1]; exact List.mem_map.mpr ⟨_, hv, rfl⟩
    obtain ⟨t', e, ht⟩ := hx _ hm
    cases e
    obtain ⟨_, its2, r2, o, ho, hc, n, hd⟩ := I.hok _ _ ht
    exact ⟨t, its2.toArray, rfl, ⟨o, ho, hc, n, hd⟩, (show StrsAre its2 (k (V.ref t)) from strs_are r2)⟩
  · rw [e0] at e1
    cases its with
    | nil => cases e1
    | cons v rest =>
      injection e1 with e3 e4
      exact ⟨v, rest, rfl, by rw [← e3]; exact k0⟩
  · have h3 : ∀ u ∈ out, ∃ a, u = Value.ref a := fun u hu => e2 u (h2.perm.mem_iff.mp hu)
    obtain ⟨n, hn⟩ := hn
    have hb : SrtO.Stb (ltT k) (out.map backV) xs := by
      rw [e1]
      exact SrtO.Stb.map (swo_lexS k) backV h2
    refine ⟨.ref d, upd H d (.lst (out.map backV)), I.laid (t' := s.toks) kp hd ⟨?_, out, n, vals_back h3, hn⟩, rfl, q _ d (SrtO.srtd_map h1) hb (I.hok.fresh hd)⟩
    rw [hb.len]
    exact hz
end
end L2.G42

set_option Elab.async false
set_option linter.all false
set_option maxRecDepth 100000
set_option maxHeartbeats 4000000
namespace L2.G42
open PySem PySem.Spec PyProof.Rows Srt
section
open PySem.SeqAt
open PySem.AutoSeq1 (wpAny_loadPart')
open PySem.MeetsSeq PySem.MeetsSeq2 PySem.MeetsSeq3
/-- [a, ..] < [c, ..], a and c different texts -/
theorem list_lt_first (l b : Addr) (items items2 : Array Value) (n n2 : Nat) (dd dd2 : Option Addr) (sl sl2 : Array (Option Value)) (a c : Str) (t u : Tok) (ne : a ≠ c) (h1 : items[0]? = some (.str a t)) (h2 : items2[0]? = some (.str c u)) :
    Meets (Builtin.«list.__lt__» ⟨[.ref l, .ref b], []⟩)
      (fun A R s => s.heap.get? l = some { cls := .type "list", dict := dd, data := .seq items n, slots := sl } ∧ s.heap.get? b = some { cls := .type "list", dict := dd2, data := .seq items2 n2, slots := sl2 } ∧ R (.ok (.ret (.bool (ltS a c)))) s) := by
  intro prog w A R s h
  obtain ⟨hp, g, d, tk, os⟩ := s; obtain ⟨hl, hb, h⟩ := h
  have f3 := AutoSeq1.sub_list_list
  wp_walk using wpAny_loadPart' hl, wpAny_loadPart' hb
  refine ⟨plainId_quiet plain_eq_loop _, codeAny_builtin entry_eq_loop ?_⟩
  rw [Around.under_plainId plain_eq_loop _]
  have key : Meets (Builtin.«list.__eq__.loop» ⟨[.ref l, .ref b, rawInt (0 : Nat), rawInt 0], []⟩)
      (fun A R s => s.heap.get? l = some { cls := .type "list", dict := dd, data := .seq items n, slots := sl } ∧ s.heap.get? b = some { cls := .type "list", dict := dd2, data := .seq items2 n2, slots := sl2 } ∧ R (.ok (.ret (.bool (ltS a c)))) s) := by
    intro prog w A R s h
    obtain ⟨hp, g, d, tk, os⟩ := s; obtain ⟨hl, hb, h⟩ := h
    wp_walk using wpAny_loadPart' hl, wpAny_loadPart' hb
    have hi1 : items[((0 : Nat) : Int).toNat]? = some (.str a t) := h1
    have hi2 : items2[((0 : Nat) : Int).toNat]? = some (.str c u) := h2
    rw [hi1, hi2]
    have he := SeqAt.EqAt.str_str (A := A.in1) (s := ⟨hp, g, d, tk, os⟩) a t c u
    refine wpAny_bind (he prog w _ _ ?_)
    have e : (a == c) = false := by simpa using ne
    rw [e]
    wp_walk using wpAny_loadPart' hl, wpAny_loadPart' hb
    rw [hi1, hi2]
    have hri := rcLt_str A.in1 ⟨hp, g, d, tk, os⟩ a t c u prog w
    wp_walk using hri
    exact h
  exact key prog w A R _ ⟨hl, hb, h⟩
end
section
variable {prog : Program} {w : World} {A : Around} {E : Value → Shared → Prop} {s : Shared}
theorem oneLt_listFirst {l b : Addr} {items items2 : Array Value} {a c : Str} {t u : Tok} {Q : Bool → Shared → Prop} (hl : s.heap.IsList l items) (hb : s.heap.IsList b items2) (h1 : items[0]? = some (.str a t)) (h2 : items2[0]? = some (.str c u)) (ne : a ≠ c)
    (hu : A.units < cLine) (h : Q (ltS a c) s) : wpAny (model prog w) A (oneLt' true (.ref l) (.ref b)) Q E s := by
  obtain ⟨⟨cls, dd, data, sl⟩, ho, hc, n, hd⟩ := id hl
  obtain ⟨⟨cls2, dd2, data2, sl2⟩, ho2, hc2, n2, hd2⟩ := id hb
  simp only at hc hd hc2 hd2
  subst hc hd hc2 hd2
  rw [oneLt'_eq]
  simp only [if_true]
  refine wpAny_bind (wpAny_cRoomFor hu ?_)
  refine wpAny_bind (wpAny_callSpecialIfBound?_slot (T := "list") ⟨_, ho, rfl⟩ PySem.F.slot_list_lt (call_meets PySem.F.slot_list_lt ⟨_, ho, rfl⟩ PySem.F.entry_list_lt (PySem.F.args_list_lt_2 _ _) (list_lt_first l b items items2 n n2 dd dd2 sl sl2 a c t u ne h1 h2) ⟨ho, ho2, ?_⟩))
  exact wpAny_truthy_bool h
end
/-- a list whose first item is a text -/
def LstS (h : Heap) (v : Value) (x : Str) : Prop := ∃ l items t, v = .ref l ∧ h.IsList l items ∧ items[0]? = some (.str x t)
theorem LstS.keeps {h h' : Heap} {v : Value} {x : Str} (T : LstS h v x) (k : ∀ b o, h.get? b = some o → .ref b = v → h'.get? b = some o) : LstS h' v x := by
  obtain ⟨l, items, t, rfl, ⟨o, ho, hc, n, hd⟩, hs⟩ := T
  exact ⟨l, items, t, rfl, ⟨o, k _ _ ho rfl, hc, n, hd⟩, hs⟩
section
variable {prog : Program} {w : World} {A : Around} {E : Value → Shared → Prop} {s : Shared}
theorem firstLt_all {e r : Nat → Bool} {fin : Bool} (he : ∀ j, e j = true) : ∀ l : List Nat, PySem.SeqAt.firstLt e r fin l = fin
  | [] => rfl
  | j :: l => by
    rw [PySem.SeqAt.firstLt_yes (he j)]
    exact firstLt_all he l
theorem oneLt_listSelf {l : Addr} {items : Array Value} {Q : Bool → Shared → Prop} (hl : s.heap.IsList l items) (hu : A.units < cLine) (h : Q false s) : wpAny (model prog w) A (oneLt' true (.ref l) (.ref l)) Q E s := by
  obtain ⟨o, ho, hc, n, hd⟩ := id hl
  rw [oneLt'_eq]
  simp only [if_true]
  refine wpAny_bind (wpAny_cRoomFor hu ?_)
  refine wpAny_bind (wpAny_callSpecialIfBound?_slot (T := "list") ⟨_, ho, hc⟩ PySem.F.slot_list_lt (PySem.SeqAt.call_list_lt (e := fun _ => true) (r := fun _ => false) hl hl (fun j j1 j2 => PySem.SeqAt.EqAt.same _) (fun j j1 j2 hj => by cases hj) ?_))
  rw [firstLt_all (fun _ => rfl)]
  have e : decide (items.size < items.size) = false := decide_eq_false (Nat.lt_irrefl _)
  rw [e]
  exact wpAny_truthy_bool h
theorem lsts_cmp {vs : List Value} {k : Value → Str} (hp : ∀ v ∈ vs, LstS s.heap v (k v)) (hne : ∀ v ∈ vs, ∀ u ∈ vs, k v = k u → v = u) (hu : A.units < cLine) : SrtO.Cmp prog w A s oneType' (fun p => p.1 ∈ vs) (SrtO.lt2 fun v u => ltS (k v) (k u)) := by
  intro p q hm hm'
  have h1 := hp _ hm
  have h2 := hp _ hm'
  have h3 := hne _ hm _ hm'
  show wpAny (model prog w) A (keyLt' oneType' p.1 q.1) (fun r s' => s' = s ∧ r = ltS (k p.1) (k q.1)) (fun _ _ => False) s
  by_cases e0 : k p.1 = k q.1
  · rw [← h3 e0, keyLt'_oneType, ltS_irrefl]
    obtain ⟨t, items, tk, e, ht, hs⟩ := h1
    rw [e]
    exact oneLt_listSelf ht hu ⟨rfl, rfl⟩
  · generalize k p.1 = x at h1 e0 ⊢
    generalize k q.1 = y at h2 e0 ⊢
    obtain ⟨t, items, tk, e, ht, hs⟩ := h1
    obtain ⟨t', items', tk', e', ht', hs'⟩ := h2
    rw [e, e', keyLt'_oneType]
    exact oneLt_listFirst ht ht' hs hs' e0 hu ⟨rfl, rfl⟩
theorem lsts_sortableO {a : Addr} {vs : List Value} {k : Value → Str} (hp : ∀ v ∈ vs, LstS s.heap v (k v)) (hne : ∀ v ∈ vs, ∀ u ∈ vs, k v = k u → v = u) (h2 : 2 ≤ vs.length) (ha : Value.ref a ∉ vs) (hu : A.units < cLine) : SrtO.SortableO prog w A s a vs fun v u => ltS (k v) (k u) := by
  intro h' keep
  have hp' : ∀ v ∈ vs, LstS h' v (k v) := fun v hm => (hp v hm).keeps fun b o e c => keep b o (fun z => by subst z; rw [c] at ha; exact ha hm) e
  refine ⟨oneType', fun Q E hq => PySem.W.kas_kind (s := { s with heap := h' }) (T := .type "list") h2 (fun v hv => ?_) (by decide +kernel) (by decide +kernel) hq, lsts_cmp (s := { s with heap := h' }) hp' hne hu⟩
  obtain ⟨t, items, tk, rfl, ⟨o, ho, hc, n, hd⟩, hs⟩ := hp' v hv
  have h : PySem.W.Looks (model prog w) h' (typeOf (.ref t)) o.cls := (PySem.W.Looks.ld ho).andThen .now
  rw [hc] at h
  exact h
theorem sorted_lsts {l : Addr} {vs : List Value} {k : Value → Str} {Q : Value → Shared → Prop} (hl : s.heap.IsList l vs.toArray) (hz : vs.length ≤ sizeLine) (hp : ∀ v ∈ vs, LstS s.heap v (k v)) (hne : ∀ v ∈ vs, ∀ u ∈ vs, k v = k u → v = u) (hu : A.units + 2 < cLine)
    (h : ∀ (h' : Heap) (d : Addr) (out : List Value), SrtO.Srtd (fun v u => ltS (k v) (k u)) out → SrtO.Stb (fun v u => ltS (k v) (k u)) out vs → (∀ b o, s.heap.get? b = some o → h'.get? b = some o) → s.heap.objs.size ≤ d → (∃ n, h'.get? d = some (seqObj "list" out.toArray n)) → Q (.ref d) { s with heap := h' }) :
    wpAny (model prog w) A (call (.builtin "sorted") [.ref l]) Q E s := by
  refine SrtO.sorted_ord (swo_ltS k) hl hz (fun h2 h₁ a ha kk => ?_) fun out hs hb => ?_
  · refine lsts_sortableO (s := { s with heap := h₁ }) (fun v hm => (hp v hm).keeps fun b o e _ => (kk b o e).2) hne h2 (fun hm => ?_) (by show A.units + 1 + 1 < cLine; omega)
    obtain ⟨t, items, tk, e, ⟨o, ho, _⟩, _⟩ := hp _ hm
    injection e with e
    subst e
    exact (kk _ _ ho).1 rfl
  · exact h _ _ out hs hb (fun b o e => sortedAll_old e) (Nat.le_succ _) (sortedAll_at s.heap vs out.toArray)
end
/-- sorted(xs), xs a list of lists [text, ..] with different texts -/
def rSortedLS (K : PySem.W.Frag) : List V → Hp → VK → Prop := fun vs H Q => ∃ (a : Addr) (xs : List V) (k : V → Str), vs = [V.ref a] ∧ SqL K H a xs ∧ (∀ x ∈ xs, ∃ t zs, x = V.ref t ∧ SqL K H t (V.str (k x) :: zs)) ∧ (∀ x ∈ xs, ∀ y ∈ xs, k x = k y → x = y) ∧
  ∀ ys p, SrtO.Srtd (fun x y => ltS (k x) (k y)) ys → SrtO.Stb (fun x y => ltS (k x) (k y)) ys xs → H p = none → Q (.ref p) (upd H p (.lst ys))
section
variable {X : Cx}
theorem cr_sortedLS (hu : X.A.units + 64 < cLine) : CallR X (.builtin "sorted") (rSortedLS X.K) := by
  intro pins s σ H vs us Q I r h
  obtain ⟨a, xs, k, rfl, hs, hx, hne, q⟩ := h
  obtain ⟨its, rv, hl, hz⟩ := I.list hs
  obtain ⟨u, rfl, ru⟩ := vals1 r
  obtain rfl : u = Value.ref a := ru
  obtain ⟨e1, e2⟩ := refs_back rv fun x m => by
    obtain ⟨t, zs, e, _⟩ := hx x m
    exact ⟨t, e⟩
  refine sorted_lsts (k := fun u => k (backV u)) hl.isList (by rw [← rv.length]; exact hz) (fun v hv => ?_) (fun v hv u hu' e => ?_) (by omega) fun h' d out h1 h2 kp hd hn => ?_
  · obtain ⟨t, rfl⟩ := e2 v hv
    have hm : V.ref t ∈ xs := by rw [e1]; exact List.mem_map.mpr ⟨_, hv, rfl⟩
    obtain ⟨t', zs, e, ht⟩ := hx _ hm
    cases e
    obtain ⟨its2, r2, hl2, _⟩ := I.list ht
    cases r2 with
    | @cons _ _ _ us2 r3 r4 =>
      obtain ⟨tk, rfl⟩ := r3
      exact ⟨t, _, tk, rfl, hl2.isList, rfl⟩
  · obtain ⟨t, rfl⟩ := e2 v hv
    obtain ⟨t', rfl⟩ := e2 u hu'
    have hm : V.ref t ∈ xs := by rw [e1]; exact List.mem_map.mpr ⟨_, hv, rfl⟩
    have hm' : V.ref t' ∈ xs := by rw [e1]; exact List.mem_map.mpr ⟨_, hu', rfl⟩
    have := hne _ hm _ hm' e
    injection this with this
    rw [this]
  · have h3 : ∀ u ∈ out, ∃ a, u = Value.ref a := fun u hu => e2 u (h2.perm.mem_iff.mp hu)
    obtain ⟨n, hn⟩ := hn
    have hb : SrtO.Stb (fun x y => ltS (k x) (k y)) (out.map backV) xs := by
      rw [e1]
      exact SrtO.Stb.map (swo_ltS k) backV h2
    refine ⟨.ref d, upd H d (.lst (out.map backV)), I.laid (t' := s.toks) kp hd ⟨?_, out, n, vals_back h3, hn⟩, rfl, q _ d (SrtO.srtd_map h1) hb (I.hok.fresh hd)⟩
    rw [hb.len]
    exact hz
end
end L2.G42

set_option Elab.async false
set_option linter.all false
set_option maxRecDepth 100000
set_option maxHeartbeats 4000000
namespace L2.G42
open PySem PySem.Spec PyProof.Rows Srt
/-- a total order -/
structure Tot {β : Type} (lt : β → β → Bool) : Prop where
  as : ∀ {x y}, lt x y = true → lt y x = false
  cn : ∀ {x y}, lt x y = false → lt y x = false → x = y
  tr : ∀ {x y z}, lt x y = true → lt y z = true → lt x z = true
theorem tot_ltS : Tot ltS := ⟨ltS_asymm, ltS_conn, ltS_trans⟩
theorem tot_lexS : Tot lexS := ⟨lexS_asymm, lexS_conn, lexS_trans⟩
def srtBy {α β : Type} (lt : β → β → Bool) (k : α → β) (es : List α) : List α := es.mergeSort fun a b => !lt (k b) (k a)
/-- ascending by k -/
abbrev UpBy {α β : Type} (lt : β → β → Bool) (k : α → β) (es : List α) : Prop := es.Pairwise fun a b => lt (k a) (k b) = true
abbrev DiffBy {α β : Type} (k : α → β) (es : List α) : Prop := es.Pairwise fun a b => k a ≠ k b
section
variable {α β : Type} {lt : β → β → Bool} {k : α → β}
theorem srtBy_perm (es : List α) : (srtBy lt k es).Perm es := List.mergeSort_perm es _
theorem srtBy_mem {es : List α} {x : α} : x ∈ srtBy lt k es ↔ x ∈ es := (srtBy_perm es).mem_iff
theorem srtBy_len {es : List α} : (srtBy lt k es).length = es.length := (srtBy_perm es).length_eq
theorem DiffBy.perm {es fs : List α} (h : DiffBy k es) (p : fs.Perm es) : DiffBy k fs := (p.pairwise_iff (fun {a b} h e => h e.symm)).mpr h
theorem DiffBy.of {es : List α} (h : (es.map k).Nodup) : DiffBy k es := List.pairwise_map.mp h
theorem DiffBy.nd {es : List α} (h : DiffBy k es) : (es.map k).Nodup := List.pairwise_map.mpr h
theorem srtBy_up (O : Tot lt) {es : List α} (h : DiffBy k es) : UpBy lt k (srtBy lt k es) := by
  have a := List.pairwise_mergeSort (le := fun a b => !lt (k b) (k a)) (fun a b c h1 h2 => ?_) (fun a b => ?_) es
  · have b := h.perm (srtBy_perm (lt := lt) (k := k) es)
    refine List.Pairwise.imp₂ (fun x y h1 h2 => ?_) a b
    cases e : lt (k x) (k y) with
    | true => rfl
    | false =>
      have e2 : lt (k y) (k x) = false := by simpa using h1
      exact absurd (O.cn e e2) h2
  · have h1' : lt (k b) (k a) = false := by simpa using h1
    have h2' : lt (k c) (k b) = false := by simpa using h2
    have := (swo_of O.as O.cn O.tr k).tr a b c h1' h2'
    simpa using this
  · cases e : lt (k a) (k b) with
    | false => simp
    | true => simp [O.as e]
theorem up_uniq (O : Tot lt) : ∀ {l m : List α}, l.Perm m → UpBy lt k l → UpBy lt k m → l = m
  | [], m, p, _, _ => (List.Perm.eq_nil p.symm).symm
  | x :: l, [], p, _, _ => absurd p.length_eq (by simp)
  | x :: l, y :: m, p, hl, hm => by
    have hl' := List.pairwise_cons.mp hl
    have hm' := List.pairwise_cons.mp hm
    have e : x = y := by
      rcases List.mem_cons.mp (p.mem_iff.mp (List.mem_cons_self (a := x) (l := l))) with e | hx
      · exact e
      · rcases List.mem_cons.mp (p.mem_iff.mpr (List.mem_cons_self (a := y) (l := m))) with e | hy
        · exact e.symm
        · have a := hm'.1 x hx
          have b := hl'.1 y hy
          rw [O.as b] at a
          cases a
    subst e
    rw [up_uniq O p.cons_inv hl'.2 hm'.2]
theorem UpBy.diff (O : Tot lt) {es : List α} (h : UpBy lt k es) : DiffBy k es := h.imp fun {a b} h e => by
  rw [e] at h
  have := O.as h
  rw [h] at this
  cases this
theorem srtBy_uniq (O : Tot lt) {es fs : List α} (p : fs.Perm es) (h : UpBy lt k fs) : fs = srtBy lt k es := up_uniq O (p.trans (srtBy_perm es).symm) h (srtBy_up O ((h.diff O).perm p.symm))
theorem srtBy_of_up (O : Tot lt) {es : List α} (h : UpBy lt k es) : srtBy lt k es = es := (srtBy_uniq O (List.Perm.refl _) h).symm
theorem srtBy_idem (O : Tot lt) {es : List α} (h : DiffBy k es) : srtBy lt k (srtBy lt k es) = srtBy lt k es := srtBy_of_up O (srtBy_up O h)
/-- carried over a map that keeps the keys -/
theorem srtBy_map (O : Tot lt) {γ : Type} {k2 : γ → β} {f : α → γ} (hf : ∀ a, k2 (f a) = k a) {es : List α} (h : DiffBy k es) : srtBy lt k2 (es.map f) = (srtBy lt k es).map f := by
  refine (srtBy_uniq O ((srtBy_perm es).map f) (List.pairwise_map.mpr ?_)).symm
  exact (srtBy_up O h).imp fun {a b} q => by rw [hf, hf]; exact q
end
/-- sorted(xs), xs a list of lists [text, ..] with different texts -/
def rSortLS (K : PySem.W.Frag) : List V → Hp → VK → Prop := fun vs H Q => ∃ (α : Type) (v : α → V) (k : α → Str) (es : List α) (a : Addr), vs = [V.ref a] ∧ SqL K H a (es.map v) ∧ (∀ e ∈ es, ∃ t zs, v e = V.ref t ∧ SqL K H t (V.str (k e) :: zs)) ∧ DiffBy k es ∧
  ∀ p, H p = none → Q (.ref p) (upd H p (.lst ((srtBy ltS k es).map v)))
/-- sorted(xs), xs a list of tuples of texts, different ones, the first of them empty -/
def rSortTS (K : PySem.W.Frag) : List V → Hp → VK → Prop := fun vs H Q => ∃ (α : Type) (v : α → V) (k : α → List Str) (es : List α) (a : Addr), vs = [V.ref a] ∧ SqL K H a (es.map v) ∧ (∀ e ∈ es, ∃ t, v e = V.ref t ∧ H t = some (.tup ((k e).map V.str))) ∧ DiffBy k es ∧ (∃ x rest, es = x :: rest ∧ k x = []) ∧
  ∀ p, H p = none → Q (.ref p) (upd H p (.lst ((srtBy lexS k es).map v)))
theorem stb_is {α β : Type} {lt : β → β → Bool} (O : Tot lt) {k : α → β} {v : α → V} {kk : V → β} {es : List α} {ys : List V} (hk : ∀ e ∈ es, kk (v e) = k e) (hd : DiffBy k es) (h1 : SrtO.Srtd (fun x y => lt (kk x) (kk y)) ys) (h2 : SrtO.Stb (fun x y => lt (kk x) (kk y)) ys (es.map v)) : ys = (srtBy lt k es).map v := by
  have p1 : ys.Perm ((srtBy lt k es).map v) := h2.perm.trans ((srtBy_perm es).map v).symm
  have u2 : UpBy lt kk ((srtBy lt k es).map v) := by
    refine List.pairwise_map.mpr ?_
    refine List.Pairwise.imp_of_mem (fun {a b} ha hb h => ?_) (srtBy_up O hd)
    rw [hk a (srtBy_mem.mp ha), hk b (srtBy_mem.mp hb)]
    exact h
  have d1 : DiffBy kk ys := (u2.diff O).perm p1
  refine up_uniq O p1 ?_ u2
  refine List.Pairwise.imp₂ (fun x y h1 h2 => ?_) h1 d1
  cases e : lt (kk x) (kk y) with
  | true => rfl
  | false => exact absurd (O.cn e h1) h2
def strOf : V → Str
  | .str x => x
  | _ => ""
theorem strOf_map : ∀ xs : List Str, (xs.map V.str).map strOf = xs
  | [] => rfl
  | x :: xs => by rw [List.map_cons, List.map_cons, strOf_map xs]; rfl
/-- the texts of the tuple at a place of the heap -/
def strsAt (H : Hp) : V → List Str
  | .ref t => match H t with
    | some (.tup vs) => vs.map strOf
    | _ => []
  | _ => []
section
variable {X : Cx}
theorem cr_sortTS (hu : X.A.units + 64 < cLine) : CallR X (.builtin "sorted") (rSortTS X.K) := by
  intro pins s σ H vs us Q I r h
  obtain ⟨α, v, k, es, a, rfl, hs, hx, hd, ⟨x0, xr, e0, k0⟩, q⟩ := h
  have hk : ∀ e ∈ es, strsAt H (v e) = k e := fun e he => by
    obtain ⟨t, ht, h2⟩ := hx e he
    rw [ht]
    unfold strsAt
    simp only [h2]
    exact strOf_map _
  refine cr_sortedTS hu pins s σ H _ us Q I r ⟨a, es.map v, strsAt H, rfl, hs, fun x hm => ?_, ?_, fun ys p h1 h2 hp => ?_⟩
  · obtain ⟨e, he, rfl⟩ := List.mem_map.mp hm
    obtain ⟨t, ht, h2⟩ := hx e he
    exact ⟨t, ht, by rw [hk e he]; exact h2⟩
  · refine ⟨v x0, xr.map v, by rw [e0]; rfl, ?_⟩
    rw [hk x0 (by rw [e0]; exact List.mem_cons_self)]
    exact k0
  · rw [stb_is tot_lexS hk hd h1 h2]
    exact q p hp
theorem sql_fun {pins : List (Addr × Obj)} {σ : St} {H : Hp} {s : Shared} (I : Inv X pins σ H s) {a : Addr} {x y : Str} {xs ys : List V} (h1 : SqL X.K H a (.str x :: xs)) (h2 : SqL X.K H a (.str y :: ys)) : x = y := by
  obtain ⟨its, r1, l1, _⟩ := I.list h1
  obtain ⟨its2, r2, l2, _⟩ := I.list h2
  obtain ⟨o, ho, hc, n, hd⟩ := l1.isList
  obtain ⟨o', ho', hc', n', hd'⟩ := l2.isList
  rw [ho] at ho'
  obtain rfl := Option.some.inj ho'
  rw [hd] at hd'
  injection hd' with e _
  have e : its = its2 := by simpa using e
  subst e
  cases r1 with
  | cons a1 _ =>
    cases r2 with
    | cons a2 _ =>
      obtain ⟨t1, rfl⟩ := a1
      obtain ⟨t2, e⟩ := a2
      injection e
theorem cr_sortLS (hu : X.A.units + 64 < cLine) : CallR X (.builtin "sorted") (rSortLS X.K) := by
  intro pins s σ H vs us Q I r h
  obtain ⟨α, v, k, es, a, rfl, hs, hx, hd, q⟩ := h
  classical
  let kk : V → Str := fun x => if h : ∃ e, e ∈ es ∧ v e = x then k h.choose else ""
  have inj : ∀ e ∈ es, ∀ f ∈ es, v e = v f → k e = k f := fun e he f hf h => by
    obtain ⟨t, zs, h1, h2⟩ := hx e he
    obtain ⟨t', zs', h1', h2'⟩ := hx f hf
    rw [h1, h1'] at h
    injection h with h
    subst h
    exact sql_fun I h2 h2'
  have hk : ∀ e ∈ es, kk (v e) = k e := fun e he => by
    have h : ∃ f, f ∈ es ∧ v f = v e := ⟨e, he, rfl⟩
    show (if h : ∃ f, f ∈ es ∧ v f = v e then k h.choose else "") = k e
    rw [dif_pos h]
    exact inj _ h.choose_spec.1 _ he h.choose_spec.2
  refine cr_sortedLS hu pins s σ H _ us Q I r ⟨a, es.map v, kk, rfl, hs, fun x hm => ?_, fun x hm y hm' e => ?_, fun ys p h1 h2 hp => ?_⟩
  · obtain ⟨e, he, rfl⟩ := List.mem_map.mp hm
    obtain ⟨t, zs, ht, h2⟩ := hx e he
    exact ⟨t, zs, ht, by rw [hk e he]; exact h2⟩
  · obtain ⟨e1, he1, rfl⟩ := List.mem_map.mp hm
    obtain ⟨e2, he2, rfl⟩ := List.mem_map.mp hm'
    rw [hk e1 he1, hk e2 he2] at e
    have := hd.nd
    have e3 : e1 = e2 := by
      obtain ⟨i, hi, rfl⟩ := List.getElem_of_mem he1
      obtain ⟨j, hj, rfl⟩ := List.getElem_of_mem he2
      have : i = j := by
        rcases Nat.lt_trichotomy i j with h | h | h
        · exact absurd e (List.pairwise_iff_getElem.mp hd i j hi hj h)
        · exact h
        · exact absurd e.symm (List.pairwise_iff_getElem.mp hd j i hj hi h)
      subst this
      rfl
    rw [e3]
  · rw [stb_is tot_ltS hk hd h1 h2]
    exact q p hp
end
end L2.G42

set_option Elab.async false
set_option linter.all false
set_option maxRecDepth 100000
set_option maxHeartbeats 4000000
namespace L2.G42
open PySem PySem.Spec PyProof.Rows
/-! dict comprehensions whose keys are tuples -/
theorem set_dT {X : Cx} {pins : List (Addr × Obj)} {σ : St} {H : Hp} {s : Shared} {E : Value → Shared → Prop} {D b : Addr} {kvs : List (List Key × V)} {k : List Key} {z : V} {r : Value} {Q : Unit → Shared → Prop} (hu : X.A.units + 1 < cLine) (I : Inv X pins σ H s) (eD : H D = some (.dT kvs)) (eb : H b = some (.tup (k.map kV))) (few : kvs.length < sizeLine)
    (rz : RelV z r) (h : ∀ s', Inv X pins σ (upd H D (.dT (putK kvs k z))) s' → Q () s') : wpAny (model X.prog X.w) X.A (dictSet D (.ref b) r) Q E s := by
  obtain ⟨len, nsys, xs, rel, own⟩ := dt_of I.hok eD
  have l1 : xs.length ≤ sizeLine := by rw [← Paired.length rel]; exact len
  have l2 : (putK kvs k z).length ≤ sizeLine := by have := length_putK kvs k z; omega
  refine wpAny_dictSet_heap (hsz := l1) (show X.A.units < cLine by omega) (key_of I.hok eb) own fun h' own' same => h _ ?_
  obtain ⟨q, es, ep, q1, q2, q3, q4, _, q5⟩ := own'
  refine d_write I (by rw [eD]; trivial) same ⟨q, q1⟩ ⟨l2, nsys, _, (rel.put k eb rz).keeps fun c ys ec => ?_, q, es, ep, q1, q2, q3, q4, q5⟩
  rw [upd_ne (ne_of ec eD (fun z => nomatch z))]
  exact ec
section
variable {X : Cx}
/-- {k: v for target in iter if ..}, the keys tuples of ints and texts: N the new dict -/
def tDcT (wi : TI) (g : TG) (tt : TT) (tk tv : TE) (vs : List Nat) : TE := fun σ H Q => wi σ H fun J H1 => ∀ N, H1 N = none → ∃ V : Nat → Nat → Hp → Prop, (∃ m, V 0 m (upd H1 N (.dT []))) ∧ ∀ i m H, V i m H →
  (J.stop i H ∧ Q (.ref N) H) ∨ (J.go i H ∧ ∃ Z : Hp → Prop, (∀ H', Z H' → ∃ m', m' < m ∧ V (i + 1) m' H') ∧ ∀ x H', J.yld i H x H' → g x (wipe σ vs) H' fun σ2 H2 => wipe σ2 vs = wipe σ vs ∧ tt σ2 H2 fun b H3 =>
    if b = true then tk σ2 H3 fun y H4 => tv σ2 H4 fun z H5 => ∃ c kvs k, y = .ref c ∧ H5 c = some (.tup (k.map kV)) ∧ H5 N = some (.dT kvs) ∧ kvs.length < sizeLine ∧ Z (upd H5 N (.dT (putK kvs k z))) else Z H3)
theorem pe_dcT {kx vx tg iter : Expr} {ifs : List Expr} {scope : Scope} {own : List (Str × Nat)} {pos : Pos} {wi : TI} {g : TG} {tt : TT} {tk tv : TE} (hu : X.A.units + 1 < cLine) (calm : X.calm = true) (nd : X.N.Nodup) (walk : PI X tg iter wi) (blk : BlkOk X.N X.env.scope scope own)
    (target : ∀ (s : Shared) (H : Hp) (C : Addr) (cl : List (Str × Addr)) (fp : List Addr), PG (X.blk s H scope (compEnvC scope cl C X.env) fp) tg g)
    (tests : ∀ (s : Shared) (H : Hp) (C : Addr) (cl : List (Str × Addr)) (fp : List Addr), PTs (X.blk s H scope (compEnvC scope cl C X.env) fp) ifs tt)
    (key : ∀ (s : Shared) (H : Hp) (C : Addr) (cl : List (Str × Addr)) (fp : List Addr), PE (X.blk s H scope (compEnvC scope cl C X.env) fp) kx tk)
    (val : ∀ (s : Shared) (H : Hp) (C : Addr) (cl : List (Str × Addr)) (fp : List Addr), PE (X.blk s H scope (compEnvC scope cl C X.env) fp) vx tv)
    (fold : ∀ x, foldedSetIterable iter X.env x = pure x := by intro _; rfl) : PE X (.DictComp kx vx [⟨tg, iter, ifs, 0⟩] scope pos) (tDcT wi g tt tk tv (own.map (·.2))) := by
  refine ⟨fun pins s0 σ H0 Q I0 h0 => ?_⟩
  rw [arm_eval_DictComp]
  have cells : ∀ y ∈ scope.names, y.2 = .free → ∃ c, X.env.cells.lookup y.1 = some c := fun y hy e =>
    (blk.free y hy e).elim (fun k => I0.ok.has _ (.inl k)) (fun k => I0.ok.has _ (.inr k))
  refine wpAny_comprehension_free rfl fold (closure_ok cells) blk.kind (fun y hy e => by rw [blk.uniq y hy, e]) (thn (walk.run pins s0 σ H0 _ I0 h0) fun _ sA hA => thn hA fun _ sB hB => ?_)
  obtain ⟨itA, fp, cur, J, HB, rfl, IB, T, curB, fpB, post⟩ := hB
  refine wpAny_newObj_type (newEnv_comp ?_)
  generalize eN : sB.heap.objs.size = N
  obtain ⟨V, ⟨m0, V0⟩, each⟩ := post N (IB.hok.fresh (Nat.le_of_eq eN))
  generalize eC : ({ sB with heap := sB.heap.push { cls := .type "dict", data := .dict #[] } } : Shared) = sC
  have hC : sC.heap = sB.heap.push { cls := .type "dict", data := .dict #[] } := by subst eC; rfl
  have IC : Inv X pins σ (upd HB N (.dT [])) sC := by
    subst eC
    subst eN
    exact IB.laid (t' := sB.toks) (fun _ _ e => Heap.get?_push_of_some _ e) (Nat.le_refl _) (dt_empty sB.heap IB.big)
  have small : ∀ b ∈ fp, b < sB.heap.objs.size := fun b hb => let ⟨_, e, _⟩ := T.obj _ _ curB b hb; Heap.lt_size e
  have fpC : ∀ b ∈ fp, FpOk X pins (upd HB N (.dT [])) b ∧ b < sC.heap.objs.size := fun b hb =>
    ⟨⟨by rw [upd_ne (by rw [← eN]; exact Nat.ne_of_lt (small b hb))]; exact (fpB b hb).1, (fpB b hb).2⟩, by rw [hC, Heap.size_push]; exact Nat.lt_succ_of_lt (small b hb)⟩
  have curC : cur 0 sC.heap := T.keep _ _ _ curB fun b _ o e => by rw [hC]; exact Heap.get?_push_of_some _ e
  have ID := block_start IC blk nd fpC
  have p1 := target sC (upd HB N (.dT [])) sC.heap.objs.size (cellsFrom (sC.heap.objs.size + 1) scope.names (cloFrom X.env.cells scope.names [])) fp
  have p2 := tests sC (upd HB N (.dT [])) sC.heap.objs.size (cellsFrom (sC.heap.objs.size + 1) scope.names (cloFrom X.env.cells scope.names [])) fp
  have p3 := key sC (upd HB N (.dT [])) sC.heap.objs.size (cellsFrom (sC.heap.objs.size + 1) scope.names (cloFrom X.env.cells scope.names [])) fp
  have p4 := val sC (upd HB N (.dT [])) sC.heap.objs.size (cellsFrom (sC.heap.objs.size + 1) scope.names (cloFrom X.env.cells scope.names [])) fp
  show codeAny _ _ (.compStart (.DictComp kx vx [⟨tg, iter, ifs, 0⟩] scope pos) 0 (.ref itA) (.ref N) (compEnvC scope (cellsFrom (sC.heap.objs.size + 1) scope.names (cloFrom X.env.cells scope.names [])) sC.heap.objs.size X.env)) (compPost (model X.prog X.w) X.A X.xe none _ (.ref N) sC.heap.objs.size) { sC with heap := pushCells (sC.heap.push { cls := .type "dict", data := .dict #[] }) scope.names }
  have out : ∀ b ∈ fp, (upd HB N (.dT [])) b = none := fun b hb => (fpC b hb).1.1
  generalize eE : compEnvC scope (cellsFrom (sC.heap.objs.size + 1) scope.names (cloFrom X.env.cells scope.names [])) sC.heap.objs.size X.env = E at ID p1 p2 p3 p4 ⊢
  have loc : E.locals = sC.heap.objs.size := by subst eE; rfl
  generalize eH : upd HB N (.dT []) = HC at IC ID p1 p2 p3 p4 V0 out fpC
  generalize eD : ({ sC with heap := pushCells (sC.heap.push { cls := .type "dict", data := .dict #[] }) scope.names } : Shared) = sD at ID ⊢
  have curD : cur 0 sD.heap := T.keep _ _ _ curC fun b _ o e => by subst eD; exact pushCells_keeps _ _ _ _ (Heap.get?_push_of_some _ e)
  have held : ∀ {σ' : St} {H' : Hp} {s' : Shared}, Inv (X.blk sC HC scope E fp) [] σ' H' s' → (∀ b ∈ fp, H' b = none) → ∀ b ∈ fp, FpOk (X.blk sC HC scope E fp) [] H' b := fun {σ' H' s'} J' no b hb =>
    ⟨no b hb, (J'.ok.exf b hb).1, J'.ok.exfs b hb, .inl hb, fun x c e => (J'.ok.exf b hb).2 x c e, fun p hp => absurd hp (by simp [Cx.blk])⟩
  have loop : codeAny (model X.prog X.w) X.A (.compLoop (.DictComp kx vx [⟨tg, iter, ifs, 0⟩] scope pos) 0 (.ref itA) (.ref N) E) (compPost (model X.prog X.w) X.A X.xe none (EP X pins σ Q) (.ref N) sC.heap.objs.size) sD := by
    refine compLoop_anyD (fun n s' => ∃ i H', Inv (X.blk sC HC scope E fp) [] (wipe σ (own.map (·.2))) H' s' ∧ cur i s'.heap ∧ (∀ b ∈ fp, H' b = none) ∧ V i n H') ?_ m0 ⟨0, HC, ID, curD, out, V0⟩
    rintro n s5 ⟨i, H5, I5, c5, o5, V5⟩
    rcases each i n H5 V5 with ⟨stop, fin⟩ | ⟨go, Z, hZ, step⟩
    · refine thnF (T.done (X.blk sC HC scope E fp) rfl rfl rfl calm i [] s5 _ H5 (fun _ _ => False) I5 (held I5 o5) c5 stop) fun r s6 ⟨er, I6⟩ => ?_
      subst er
      have I7 : Inv X pins σ H5 s6 := IC.call' (ch := fp) I6.os I6.base I6.hok I6.bare fun b hb => ⟨(fpC b hb).1.2.2.2.1, (fpC b hb).1.2.1, (fpC b hb).1.2.2.2.2.1, (fpC b hb).1.2.2.2.2.2⟩
      have none5 : H5 sC.heap.objs.size = none := by
        rw [← loc]
        exact I6.free
      obtain ⟨m, ns, _⟩ := I6.loc
      have ns' : s6.heap.Ns sC.heap.objs.size m := by
        rw [← loc]
        exact ns
      obtain ⟨f0, f1, f2, f3, f4, f5⟩ := IC.fpOk (Nat.le_refl _) none5
      exact ⟨m, ns', fun h'' sb => ⟨.ref N, H5, I7.turned (t' := s6.toks) (fun b o hb e => (sb.2 b hb).trans e) f0 f1 f3 f4 f5, rfl, fin⟩⟩
    · refine thnF (T.item (X.blk sC HC scope E fp) rfl rfl rfl calm i [] s5 _ H5 (fun _ _ => False) I5 (held I5 o5) c5 go) fun r s6 ⟨u, er, h6⟩ => ?_
      subst er
      refine thnF h6 fun _ s7 ⟨x, H7, I7, r7, y7, c7, o7⟩ => ?_
      refine thnF (p1.run _ s7 _ H7 x u _ (I7.pinned (held I7 o7) (T.obj _ _ c7)) r7 (step x H7 y7)) fun _ s8 ⟨σ8, H8, I8, w8, q8⟩ => ?_
      refine thnF (p2.run _ s8 σ8 H8 _ I8 q8) fun b s9 ⟨H9, I9, q9⟩ => ?_
      have turn : ∀ {s' : Shared} {H' : Hp}, Inv (X.blk sC HC scope E fp) ([] ++ pinsAt fp s7.heap) σ8 H' s' → Z H' → ∃ m, m < n ∧ ∃ i H', Inv (X.blk sC HC scope E fp) [] (wipe σ (own.map (·.2))) H' s' ∧ cur i s'.heap ∧ (∀ b ∈ fp, H' b = none) ∧ V i m H' := fun {s' H'} J' z => by
        obtain ⟨m', lt, v'⟩ := hZ H' z
        have pin' : ∀ b ∈ fp, ∀ o, s7.heap.get? b = some o → s'.heap.get? b = some o ∧ H' b = none := fun b hb o e =>
          let y := J'.pin (b, o) (List.mem_append_right _ (List.mem_append_right _ (mem_pinsAt hb e)))
          ⟨y.1, y.2.1⟩
        refine ⟨m', lt, i + 1, H', (J'.unpinned (pins := [])).weak (by rw [← w8, wipe_length]) (fun j v e => ?_), T.keep _ _ _ c7 fun b hb o e => (pin' b hb o e).1, fun b hb => ?_, v'⟩
        · rw [← w8] at e
          exact (wipe_some e).1
        · obtain ⟨o, e, _⟩ := T.obj _ _ c7 b hb
          exact (pin' b hb o e).2
      cases b with
      | false =>
        simp only [Bool.false_eq_true, if_false] at q9 ⊢
        exact turn I9 q9
      | true =>
        simp only [if_true] at q9 ⊢
        refine thnF (p3.run _ s9 σ8 H9 _ I9 q9) fun ku sK ⟨yk, HK, IK, rk, qk⟩ => ?_
        refine thnF (p4.run _ sK σ8 HK _ IK qk) fun vu sV ⟨yv, HV, IV, rv, c, kvs, k, ek, ec, eN', few, z⟩ => ?_
        subst ek
        cases rk
        exact set_dT (X := X.blk sC HC scope E fp) hu IV eN' ec few rv fun s12 I12 => turn I12 z
  exact codeAny_compStart_dict loop (T.self X.A 0 _ _ _ curD loop)
end
end L2.G42

set_option Elab.async false
set_option linter.all false
set_option maxRecDepth 100000
set_option maxHeartbeats 4000000
namespace L2.G42
open PySem PySem.Spec PyProof.Rows
section
variable {X : Cx} {CX : CXT} {n : Nat} {C f : Addr} {fd : FuncData} {ps : List Str} {sp : Sp} {E : XK}
theorem env_in2 {pins : List (Addr × Obj)} {σ : St} {H : Hp} {s : Shared} (I : Inv X pins σ H s) : Env0 X.prog X.w X.K X.mg X.base X.A.in1.in1 X.stack s H := by
  have e := I.env0
  exact ⟨e.frames, e.mod, e.bs, e.bsz, e.funs, e.frf, e.hok, e.bare⟩
/-! str(o), repr(o), o[i] by own methods -/
def rShowO (C : Addr) (sp : Sp) (E : XK) : List V → Hp → VK → Prop := fun xs H Q => ∃ a dx fs, xs = [.ref a] ∧ H a = some (.ins C dx fs) ∧ sp [.ref a] H (fun v H' => ∃ y : Str, v = .str y ∧ Q v H') E
theorem call_strO (F : FnOk X.prog X.w X.K X.mg X.base CX n f fd ps sp) (hs : PySem.W.findIn X.K (.ref C) "__str__" = some (some (.ref f))) (hf : PySem.W.isFn X.K (.ref f) = true) (hb : Binds X.K fd ps []) (hr : Room (n + 2) X.A) (hx : Passes CX X E) :
    CallR X (.type "str") (rShowO C sp E) := by
  intro pins s σ H xs us Q I r h
  obtain ⟨a, dx, fs, rfl, ha, hsp⟩ := h
  rw [Vals.ref1 r]
  obtain ⟨mA, J, _⟩ := ins_get I.hok ha
  obtain ⟨od, J, _⟩ := J.look
  obtain ⟨m, hF⟩ := I.fr
  refine PySem.W.kso_call (by have := hr.units; show X.A.units + 1 + 1 < cLine; omega) I.kIn J hs hf ?_
  have hl := F.len _ _ _ _ hsp
  refine wpAny_call (codeAny_mono (F.run X.A.in1.in1 X.stack s H ⟨[.ref a], []⟩ [.ref a] [.ref a] _ E hr.in1.in1 (env_in2 I) (by
    have := hb s [.ref a] I.kIn (by simpa using hl)
    simpa using this) (.cons rfl .nil) hsp) fun r s' hq => ?_)
  match r, hq with
  | .error e, hq => exact hx pins σ H s e s' I hq
  | .ok .next, hq => exact hq.elim
  | .ok .brk, hq => exact hq.elim
  | .ok .cont, hq => exact hq.elim
  | .ok (.ret u), hq =>
    obtain ⟨z, H', I', rz, y, rfl, q⟩ := I.after hq
    obtain ⟨t, rfl⟩ := rz
    exact ⟨.str y, H', I', ⟨_, rfl⟩, q⟩
theorem call_reprO (F : FnOk X.prog X.w X.K X.mg X.base CX n f fd ps sp) (hs : PySem.W.findIn X.K (.ref C) "__repr__" = some (some (.ref f))) (hf : PySem.W.isFn X.K (.ref f) = true) (hb : Binds X.K fd ps []) (hr : Room (n + 1) X.A) (hx : Passes CX X E) :
    CallR X (.builtin "repr") (rShowO C sp E) := by
  intro pins s σ H xs us Q I r h
  obtain ⟨a, dx, fs, rfl, ha, hsp⟩ := h
  rw [Vals.ref1 r]
  obtain ⟨mA, J, _⟩ := ins_get I.hok ha
  obtain ⟨od, J, _⟩ := J.look
  obtain ⟨m, hF⟩ := I.fr
  refine PySem.W.repr_K (by have := hr.units; show X.A.units + 1 < cLine; omega) hF I.ok.mod.kin J hs hf ?_
  have hl := F.len _ _ _ _ hsp
  refine wpAny_call (codeAny_mono (F.run X.A.in1 X.stack s H ⟨[.ref a], []⟩ [.ref a] [.ref a] _ E hr.in1 (env_in1 I) (by
    have := hb s [.ref a] I.kIn (by simpa using hl)
    simpa using this) (.cons rfl .nil) hsp) fun r s' hq => ?_)
  match r, hq with
  | .error e, hq => exact hx pins σ H s e s' I hq
  | .ok .next, hq => exact hq.elim
  | .ok .brk, hq => exact hq.elim
  | .ok .cont, hq => exact hq.elim
  | .ok (.ret u), hq =>
    obtain ⟨z, H', I', rz, y, rfl, q⟩ := I.after hq
    obtain ⟨t, rfl⟩ := rz
    exact ⟨.str y, H', I', ⟨_, rfl⟩, q⟩
/-- o[i], what is raised wished for at the slots -/
def tGetO (C : Addr) (sp : Sp) (E : St → XK) (ta tb : TE) : TE := fun σ H Q => ta σ H fun x H1 => tb σ H1 fun y H2 => ∃ p dx fs, x = .ref p ∧ H2 p = some (.ins C dx fs) ∧ sp [x, y] H2 Q (E σ)
theorem pe_getO {E : St → XK} {a b : Expr} {pos : Pos} {ta tb : TE} (F : FnOk X.prog X.w X.K X.mg X.base CX n f fd ps sp) (hs : PySem.W.findIn X.K (.ref C) "__getitem__" = some (some (.ref f))) (hf : PySem.W.isFn X.K (.ref f) = true) (hn : PySem.W.fnIn X.K f = true) (hb : Binds X.K fd ps []) (hr : Room (n + 1) X.A) (hx : ∀ σ, PassesAt CX X σ (E σ))
    (ha : PE X a ta) (hi : PE X b tb) (hsl : ∀ o i, subscripted b true o i = runValue (.builtin "lifetime.subscript" ⟨[o, i], []⟩) := by intro _ _; rfl) : PE X (.Subscript a b pos) (tGetO C sp E ta tb) := by
  refine ⟨fun pins s σ H Q I h => ?_⟩
  refine Subscript_ (binT ha hi I h fun v u s2 x y H2 I2 rx ry q => ?_)
  obtain ⟨p, dx, fs, rfl, hp, hsp⟩ := q
  cases rx
  obtain ⟨mA, J, _⟩ := ins_get I2.hok hp
  obtain ⟨od, J, _⟩ := J.look
  obtain ⟨m, hF⟩ := I2.fr
  refine PySem.W.sub_K hF I2.ok.mod.kin J hs hn hf ?_ (hsl _ _)
  have hl := F.len _ _ _ _ hsp
  refine wpAny_call (codeAny_mono (F.run X.A.in1 X.stack s2 H2 ⟨[.ref p, u], []⟩ [.ref p, u] [.ref p, y] _ (E σ) hr.in1 (env_in1 I2) (by
    have := hb s2 [.ref p, u] I2.kIn (by simpa using hl)
    simpa using this) (.cons rfl (.cons ry .nil)) hsp) fun r s' hq => ?_)
  match r, hq with
  | .error e, hq => exact hx σ pins H2 s2 e s' I2 hq
  | .ok .next, hq => exact hq.elim
  | .ok .brk, hq => exact hq.elim
  | .ok .cont, hq => exact hq.elim
  | .ok (.ret u), hq => exact I2.after hq
end
end L2.G42

set_option Elab.async false
set_option linter.all false
set_option maxRecDepth 100000
set_option maxHeartbeats 4000000
namespace L2.G42
open PySem PySem.Spec
/-! texts of tokens with spaces between -/
/-- a token: a word of letters, or one sign -/
def Word (t : List Nat) : Prop := t ≠ [] ∧ ∀ c ∈ t, letter c = true
def Sign (t : List Nat) : Prop := ∃ c, t = [c] ∧ letter c = false ∧ c ≠ 32
def Tk (t : List Nat) : Prop := Word t ∨ Sign t
/-- tokens, each with the spaces ahead of it; e spaces at the end -/
def loose : List (Nat × List Nat) → Nat → List Nat
  | [], e => List.replicate e 32
  | (s, t) :: r, e => List.replicate s 32 ++ (t ++ loose r e)
def placed : Nat → List (Nat × List Nat) → List (Nat × List Nat)
  | _, [] => []
  | n, (s, t) :: r => (n + s, t) :: placed (n + s + t.length) r
/-- no word straight behind a word -/
def Apart2 : List (Nat × List Nat) → Prop
  | [] => True
  | [(_, t)] => Tk t
  | (_, t) :: (s, u) :: r => Tk t ∧ (Word t → s ≠ 0 ∨ Sign u) ∧ Apart2 ((s, u) :: r)
theorem toks_sp : ∀ (k n : Nat) (l : List Nat), toks n (List.replicate k 32 ++ l) = toks (n + k) l
  | 0, _, _ => rfl
  | k + 1, n, l => by
    rw [List.replicate_succ, List.cons_append, toks]
    have h : ¬ letter 32 = true := by decide
    rw [if_neg h, if_pos rfl, toks_sp k (n + 1) l]
    congr 1
    omega
theorem toks_sign {c n : Nat} {l : List Nat} (h : letter c = false) (h2 : c ≠ 32) : toks n (c :: l) = (n, [c]) :: toks (n + 1) l := by
  rw [toks, if_neg (by rw [h]; decide), if_neg h2]
theorem tw_word : ∀ {t l : List Nat}, (∀ c ∈ t, letter c = true) → (∀ c r, l = c :: r → letter c = false) → (t ++ l).takeWhile letter = t ∧ (t ++ l).dropWhile letter = l
  | [], [], _, _ => ⟨rfl, rfl⟩
  | [], c :: l, _, h => by
    have := h c l rfl
    rw [List.nil_append, List.takeWhile_cons, List.dropWhile_cons, this]
    exact ⟨rfl, rfl⟩
  | c :: t, l, h, h2 => by
    obtain ⟨a, b⟩ := tw_word (t := t) (l := l) (fun x hx => h x (List.mem_cons_of_mem _ hx)) h2
    have := h c List.mem_cons_self
    rw [List.cons_append, List.takeWhile_cons, List.dropWhile_cons, this]
    simp only [if_true]
    rw [a, b]
    exact ⟨rfl, rfl⟩
theorem toks_word {t : List Nat} {n : Nat} {l : List Nat} (h : Word t) (h2 : ∀ c r, l = c :: r → letter c = false) : toks n (t ++ l) = (n, t) :: toks (n + t.length) l := by
  obtain ⟨ne, hl⟩ := h
  cases t with
  | nil => exact absurd rfl ne
  | cons c t =>
    obtain ⟨a, b⟩ := tw_word (t := t) (l := l) (fun x hx => hl x (List.mem_cons_of_mem _ hx)) h2
    rw [List.cons_append, toks, if_pos (hl c List.mem_cons_self), a, b]
    congr 2
    rw [List.length_cons]
    omega
theorem rep_head {k c : Nat} {l r : List Nat} (h : List.replicate k 32 ++ l = c :: r) (hk : k ≠ 0) : c = 32 := by
  cases k with
  | zero => exact absurd rfl hk
  | succ k =>
    rw [List.replicate_succ] at h
    injection h with h
    exact h.symm
theorem toks_loose : ∀ (ps : List (Nat × List Nat)) (e n : Nat), Apart2 ps → toks n (loose ps e) = placed n ps
  | [], e, n, _ => by
    have := toks_sp e n []
    rw [List.append_nil] at this
    show toks n (List.replicate e 32) = []
    rw [this, toks]
  | [(s, t)], e, n, h => by
    show toks n (List.replicate s 32 ++ (t ++ loose [] e)) = _
    rw [toks_sp]
    have ih : toks (n + s + t.length) (loose [] e) = [] := toks_loose [] e _ trivial
    rcases h with h | ⟨c, rfl, h1, h2⟩
    · rw [toks_word h (fun c r q => ?_), ih]
      · rfl
      · have : c = 32 := by
          cases e with
          | zero => cases q
          | succ e =>
            have q' : List.replicate (e + 1) 32 = c :: r := q
            rw [List.replicate_succ] at q'
            injection q' with q'
            exact q'.symm
        subst this
        decide
    · rw [List.singleton_append, toks_sign h1 h2]
      exact congrArg _ ih
  | (s, t) :: (s2, u) :: r, e, n, h => by
    obtain ⟨ht, hs, hr⟩ := h
    show toks n (List.replicate s 32 ++ (t ++ loose ((s2, u) :: r) e)) = _
    rw [toks_sp]
    have ih := toks_loose ((s2, u) :: r) e (n + s + t.length) hr
    rcases ht with h | ⟨c, rfl, h1, h2⟩
    · rw [toks_word h (fun c r' q => ?_), ih]
      · rfl
      · have q' : List.replicate s2 32 ++ (u ++ loose r e) = c :: r' := q
        by_cases h0 : s2 = 0
        · subst h0
          rcases hs h with h3 | ⟨c', rfl, h4, h5⟩
          · exact absurd rfl h3
          · have q2 : [c'] ++ loose r e = c :: r' := q'
            injection q2 with q2
            rw [← q2]
            exact h4
        · rw [rep_head q' h0]
          decide
    · rw [List.singleton_append, toks_sign h1 h2]
      exact congrArg _ ih
/-! items of books: n levels of tables at most -/
def Tab : Nat → Type
  | 0 => Empty
  | n + 1 => Str × List (Str × (Str ⊕ Tab n))
abbrev Tr (n : Nat) : Type := Str ⊕ Tab n
namespace Tr
abbrev bag {n : Nat} (k : Str) : Tr n := Sum.inl k
abbrev tab {n : Nat} (m : Str) (es : List (Str × Tr n)) : Tr (n + 1) := Sum.inr (m, es)
/-- a tree is a bag, or a table with one level less -/
theorem ind {motive : (n : Nat) → Tr n → Prop} (hb : ∀ n k, motive n (bag k)) (ht : ∀ n m es, (∀ e ∈ es, motive n e.2) → motive (n + 1) (tab m es)) : ∀ n t, motive n t
  | n, .inl k => hb n k
  | 0, .inr x => nomatch x
  | n + 1, .inr (m, es) => ht n m es fun e _ => ind hb ht n e.2
def dat : (n : Nat) → Tr n → PyData
  | _, .inl k => .str k
  | 0, .inr x => nomatch x
  | n + 1, .inr (m, es) => .list [.str m, .list (es.map fun e => .list [.str e.1, dat n e.2])]
def commas : List (List Str) → List Str
  | [] => []
  | x :: r => x ++ (r.map fun y => Str.ofString "," :: y).flatten
def toks : (n : Nat) → Tr n → List Str
  | _, .inl k => [k]
  | 0, .inr x => nomatch x
  | n + 1, .inr (m, es) => m :: "{" :: (commas (es.map fun e => e.1 :: ":" :: toks n e.2) ++ [Str.ofString "}"])
def Ok : (n : Nat) → Tr n → Prop
  | _, .inl k => k ∈ kinds
  | 0, .inr x => nomatch x
  | n + 1, .inr (m, es) => m ∈ modes ∧ es ≠ [] ∧ DiffBy (·.1) es ∧ ∀ e ∈ es, isKey e.1 = true ∧ Ok n e.2
/-- at most three keys each -/
def Few : (n : Nat) → Tr n → Prop
  | _, .inl _ => True
  | 0, .inr x => nomatch x
  | n + 1, .inr (_, es) => es.length ≤ 3 ∧ ∀ e ∈ es, Few n e.2
def nt : (n : Nat) → Tr n → Nat
  | _, .inl _ => 0
  | 0, .inr x => nomatch x
  | n + 1, .inr (_, es) => 1 + (es.map fun e => nt n e.2).sum
def nb : (n : Nat) → Tr n → Nat
  | _, .inl _ => 1
  | 0, .inr x => nomatch x
  | n + 1, .inr (_, es) => (es.map fun e => nb n e.2).sum
def marks : (n : Nat) → List Str → Tr n → List (List Str × Str)
  | _, p, .inl k => [(p, k)]
  | 0, _, .inr x => nomatch x
  | n + 1, p, .inr (m, es) => (p, m) :: es.flatMap fun e => marks n (p ++ [e.1]) e.2
/-- its entries ascending, and theirs -/
def srt : (n : Nat) → Tr n → Tr n
  | _, .inl k => .inl k
  | 0, .inr x => nomatch x
  | n + 1, .inr (m, es) => tab m (srtBy ltS (·.1) (es.map fun e => (e.1, srt n e.2)))
def text : (n : Nat) → Tr n → Str
  | _, .inl k => k
  | 0, .inr x => nomatch x
  | n + 1, .inr (m, es) => m ++ "{" ++ Txt.join "," (es.map fun e => e.1 ++ ":" ++ text n e.2) ++ "}"
def form : (n : Nat) → Tr n → Str
  | _, .inl _ => "*"
  | 0, .inr x => nomatch x
  | n + 1, .inr (_, es) => "{" ++ Txt.join "," (es.map fun e => e.1 ++ ":" ++ form n e.2) ++ "}"
def keys : (n : Nat) → Tr n → List Str
  | _, .inl _ => []
  | 0, .inr x => nomatch x
  | n + 1, .inr (_, es) => es.map (·.1)
def mark : (n : Nat) → Tr n → Str
  | _, .inl k => k
  | 0, .inr x => nomatch x
  | n + 1, .inr (m, _) => m
section
variable {n : Nat} {m k : Str} {es : List (Str × Tr n)} {p : List Str}
theorem dat_bag : dat n (bag k) = .str k := by cases n <;> rfl
theorem dat_tab : dat (n + 1) (tab m es) = .list [.str m, .list (es.map fun e => .list [.str e.1, dat n e.2])] := rfl
theorem toks_bag : toks n (bag k) = [k] := by cases n <;> rfl
theorem toks_tab : toks (n + 1) (tab m es) = m :: "{" :: (commas (es.map fun e => e.1 :: ":" :: toks n e.2) ++ [Str.ofString "}"]) := rfl
theorem ok_bag : Ok n (bag k) = (k ∈ kinds) := by cases n <;> rfl
theorem ok_tab : Ok (n + 1) (tab m es) = (m ∈ modes ∧ es ≠ [] ∧ DiffBy (·.1) es ∧ ∀ e ∈ es, isKey e.1 = true ∧ Ok n e.2) := rfl
theorem few_bag : Few n (bag k) = True := by cases n <;> rfl
theorem few_tab : Few (n + 1) (tab m es) = (es.length ≤ 3 ∧ ∀ e ∈ es, Few n e.2) := rfl
theorem nt_bag : nt n (bag k) = 0 := by cases n <;> rfl
theorem nt_tab : nt (n + 1) (tab m es) = 1 + (es.map fun e => nt n e.2).sum := rfl
theorem nb_bag : nb n (bag k) = 1 := by cases n <;> rfl
theorem nb_tab : nb (n + 1) (tab m es) = (es.map fun e => nb n e.2).sum := rfl
theorem marks_bag : marks n p (bag k) = [(p, k)] := by cases n <;> rfl
theorem marks_tab : marks (n + 1) p (tab m es) = (p, m) :: es.flatMap fun e => marks n (p ++ [e.1]) e.2 := rfl
theorem srt_bag : srt n (bag k) = bag k := by cases n <;> rfl
theorem srt_tab : srt (n + 1) (tab m es) = tab m (srtBy ltS (·.1) (es.map fun e => (e.1, srt n e.2))) := rfl
theorem text_bag : text n (bag k) = k := by cases n <;> rfl
theorem text_tab : text (n + 1) (tab m es) = m ++ "{" ++ Txt.join "," (es.map fun e => e.1 ++ ":" ++ text n e.2) ++ "}" := rfl
theorem form_bag : form n (bag k) = "*" := by cases n <;> rfl
theorem form_tab : form (n + 1) (tab m es) = "{" ++ Txt.join "," (es.map fun e => e.1 ++ ":" ++ form n e.2) ++ "}" := rfl
theorem keys_bag : keys n (bag k) = [] := by cases n <;> rfl
theorem keys_tab : keys (n + 1) (tab m es) = es.map (·.1) := rfl
theorem mark_bag : mark n (bag k) = k := by cases n <;> rfl
theorem mark_tab : mark (n + 1) (tab m es) = m := rfl
end
end Tr
end L2.G42

set_option Elab.async false
set_option linter.all false
set_option maxRecDepth 100000
set_option maxHeartbeats 4000000
namespace L2.G42
open PySem PySem.Spec
def kp (p : List Str) : List Key := p.map Sum.inr
def kmk (ms : List (List Str × Str)) : List (List Key × V) := ms.map fun q => (kp q.1, V.str q.2)
theorem kp_inj {p q : List Str} (h : kp p = kp q) : p = q := by
  have : ∀ {p q : List Str}, p.map (Sum.inr : Str → Key) = q.map Sum.inr → p = q := by
    intro p
    induction p with
    | nil => intro q h; cases q with
      | nil => rfl
      | cons a b => cases h
    | cons a p ih => intro q h; cases q with
      | nil => cases h
      | cons b q =>
        injection h with h1 h2
        injection h1 with h1
        rw [h1, ih h2]
  exact this h
theorem kp_app (p q : List Str) : kp (p ++ q) = kp p ++ kp q := List.map_append
theorem kmk_app (a b : List (List Str × Str)) : kmk (a ++ b) = kmk a ++ kmk b := List.map_append
def tw (t : Nat × List Nat) : Str := tx t.2
/-- what is ahead -/
def Rd.ah (s : Rd) : List (Nat × List Nat) := s.toks.drop s.at_
theorem word_of {s : Rd} {t : Nat × List Nat} {r : List (Nat × List Nat)} (h : s.ah = t :: r) : s.word = tw t ∧ s.step.ah = r ∧ s.at_ < s.toks.length := by
  have hl : s.at_ < s.toks.length := by
    rcases Nat.lt_or_ge s.at_ s.toks.length with q | q
    · exact q
    · unfold Rd.ah at h
      rw [List.drop_eq_nil_of_le q] at h
      cases h
  have hd : s.toks.drop s.at_ = s.toks[s.at_] :: s.toks.drop (s.at_ + 1) := List.drop_eq_getElem_cons hl
  unfold Rd.ah at h
  rw [hd] at h
  injection h with h1 h2
  refine ⟨?_, h2, hl⟩
  unfold Rd.word
  rw [List.getElem?_eq_getElem hl, h1]
  rfl
theorem word_nil {s : Rd} (h : s.ah = []) : s.word = "" := by
  unfold Rd.word
  rw [List.getElem?_eq_none (List.drop_eq_nil_iff.mp h)]
/-- read on -/
def Rd.adv (s : Rd) (k : Nat) (ms : List (List Str × Str)) (a b : Nat) : Rd := { s with at_ := s.at_ + k, marks := s.marks ++ kmk ms, nt := s.nt + a, nb := s.nb + b }
theorem adv_ah {s : Rd} {ts rest : List (Nat × List Nat)} (h : s.ah = ts ++ rest) {k : Nat} (hk : k = ts.length) (ms : List (List Str × Str)) (a b : Nat) : (s.adv k ms a b).ah = rest := by
  subst hk
  show s.toks.drop (s.at_ + ts.length) = rest
  rw [← List.drop_drop]
  show (s.ah).drop ts.length = rest
  rw [h, List.drop_left]
theorem adv_adv (s : Rd) (k k' : Nat) (ms ms' : List (List Str × Str)) (a a' b b' : Nat) : (s.adv k ms a b).adv k' ms' a' b' = s.adv (k + k') (ms ++ ms') (a + a') (b + b') := by
  unfold Rd.adv
  simp only [Nat.add_assoc, List.append_assoc, kmk_app]
theorem take_of {s : Rd} {x : Str} {t : Nat × List Nat} {r : List (Nat × List Nat)} (h : s.ah = t :: r) (hx : tw t = x) : rdTake x s = .ok (s.adv 1 [] 0 0) := by
  unfold rdTake
  rw [(word_of h).1, if_pos hx]
  unfold Rd.adv Rd.step kmk
  simp
/-- no mark at or behind p -/
def Free (s : Rd) (p : List Str) : Prop := ∀ q ∈ s.marks, ∀ r : List Key, q.1 ≠ kp p ++ r
theorem val_none {s : Rd} {p : List Str} (h : Free s p) : valV s.marks (kp p) = none := by
  unfold valV
  rw [Option.map_eq_none_iff, List.find?_eq_none]
  intro q hq e
  have := of_decide_eq_true e
  exact h q hq [] (by rw [List.append_nil]; exact this)
theorem put_new {s : Rd} {p : List Str} (h : Free s p) (v : V) : putK s.marks (kp p) v = s.marks ++ [(kp p, v)] := by
  unfold putK
  rw [if_neg]
  intro e
  obtain ⟨q, hq, e⟩ := List.any_eq_true.mp e
  have := of_decide_eq_true e
  exact h q hq [] (by rw [List.append_nil]; exact this)
namespace Tr
theorem marks_pre : ∀ (n : Nat) (t : Tr n) (p : List Str), ∀ q ∈ marks n p t, ∃ r, q.1 = p ++ r := by
  refine ind (fun n k p q hq => ?_) (fun n m es ih p q hq => ?_)
  · rw [marks_bag] at hq
    rw [List.mem_singleton.mp hq]
    exact ⟨[], (List.append_nil _).symm⟩
  · rw [marks_tab] at hq
    rcases List.mem_cons.mp hq with e | hq
    · rw [e]; exact ⟨[], (List.append_nil _).symm⟩
    · obtain ⟨e, he, hq⟩ := List.mem_flatMap.mp hq
      obtain ⟨r, hr⟩ := ih e he (p ++ [e.1]) q hq
      exact ⟨[e.1] ++ r, by rw [hr, List.append_assoc]⟩
end Tr
theorem Free.adv {s : Rd} {p p' : List Str} (h : Free s p) {k a b : Nat} {ms : List (List Str × Str)} (hm : ∀ q ∈ ms, ∃ r, q.1 = p' ++ r) (hne : ∀ r r', p' ++ r ≠ p ++ r') : Free (s.adv k ms a b) p := by
  intro q hq r e
  rcases List.mem_append.mp (show q ∈ s.marks ++ kmk ms from hq) with hq | hq
  · exact h q hq r e
  · obtain ⟨x, hx, rfl⟩ := List.mem_map.mp hq
    obtain ⟨r', hr'⟩ := hm x hx
    have e' : kp x.1 = kp p ++ r := e
    rw [hr', kp_app] at e'
    -- the tail is of texts too
    have len : (kp p).length ≤ (kp (p' ++ r')).length := by
      rw [kp_app, e', List.length_append]
      omega
    have e2 : p = (p' ++ r').take p.length := by
      apply kp_inj
      have h1 : kp ((p' ++ r').take p.length) = (kp (p' ++ r')).take p.length := List.map_take
      rw [h1, kp_app, e']
      have : (kp p).length = p.length := List.length_map _
      rw [← this, List.take_left]
    exact hne r' ((p' ++ r').drop p.length) (by
      have := List.take_append_drop p.length (p' ++ r')
      rw [← e2] at this
      exact this.symm)
theorem ne_keys {p : List Str} {a b : Str} (h : a ≠ b) : ∀ r r', (p ++ [a]) ++ r ≠ (p ++ [b]) ++ r' := fun r r' e => by
  rw [List.append_assoc, List.append_assoc] at e
  have := List.append_cancel_left e
  injection this with h1 _
  exact h h1
theorem Free.under {s : Rd} {p : List Str} (h : Free s p) (a : Str) : Free s (p ++ [a]) := fun q hq r e => h q hq (kp [a] ++ r) (by rw [e, kp_app, List.append_assoc])
end L2.G42

set_option Elab.async false
set_option linter.all false
set_option maxRecDepth 100000
set_option maxHeartbeats 4000000
namespace L2.G42
open PySem PySem.Spec
namespace Tr
/-- a reader that reads x under p -/
def Reads1 (ent : Rd → Except Nat Rd) (p : List Str) (n : Nat) (e : Str × Tr n) : Prop := ∀ (s : Rd) (ts rest : List (Nat × List Nat)), s.ah = ts ++ rest → ts.map tw = e.1 :: ":" :: toks n e.2 → Free s (p ++ [e.1]) → s.nt + nt n e.2 ≤ 6 → s.nb + nb n e.2 ≤ 6 →
  ent s = .ok (s.adv ts.length (marks n (p ++ [e.1]) e.2) (nt n e.2) (nb n e.2))
theorem map_cons_inv {α β : Type} {f : α → β} {l : List α} {b : β} {m : List β} (h : l.map f = b :: m) : ∃ a r, l = a :: r ∧ f a = b ∧ r.map f = m := by
  cases l with
  | nil => cases h
  | cons a r => injection h with h1 h2; exact ⟨a, r, rfl, h1, h2⟩
theorem map_app_inv {α β : Type} {f : α → β} : ∀ {m k : List β} {l : List α}, l.map f = m ++ k → ∃ a r, l = a ++ r ∧ a.map f = m ∧ r.map f = k
  | [], k, l, h => ⟨[], l, rfl, rfl, h⟩
  | b :: m, k, l, h => by
    obtain ⟨a, r, rfl, h1, h2⟩ := map_cons_inv (show l.map f = b :: (m ++ k) from h)
    obtain ⟨x, y, rfl, h3, h4⟩ := map_app_inv h2
    exact ⟨a :: x, y, rfl, by rw [List.map_cons, h1, h3], h4⟩
theorem more_of {ent : Rd → Except Nat Rd} {p : List Str} {n : Nat} : ∀ (es : List (Str × Tr n)) (k : Nat) (s : Rd) (ts rest : List (Nat × List Nat)), (∀ e ∈ es, Reads1 ent p n e) → es.length ≤ k → s.ah = ts ++ rest → ts.map tw = (es.map fun e => Str.ofString "," :: e.1 :: ":" :: toks n e.2).flatten →
    (∀ t r, rest = t :: r → tw t ≠ ",") → DiffBy (·.1) es → (∀ e ∈ es, Free s (p ++ [e.1])) → s.nt + (es.map fun e => nt n e.2).sum ≤ 6 → s.nb + (es.map fun e => nb n e.2).sum ≤ 6 →
    rdMore ent k s = .ok (s.adv ts.length (es.flatMap fun e => marks n (p ++ [e.1]) e.2) (es.map fun e => nt n e.2).sum (es.map fun e => nb n e.2).sum)
  | [], k, s, ts, rest, _, _, ha, ht, hr, _, _, _, _ => by
    have e : ts = [] := List.map_eq_nil_iff.mp ht
    subst e
    have hw : s.word ≠ "," := by
      cases rest with
      | nil => rw [word_nil ha]; decide
      | cons t r => rw [(word_of ha).1]; exact hr t r rfl
    have e2 : s.adv ([] : List (Nat × List Nat)).length (([] : List (Str × Tr n)).flatMap fun e => marks n (p ++ [e.1]) e.2) 0 0 = s := by
      unfold Rd.adv kmk
      simp
    cases k with
    | zero => rw [rdMore, if_neg hw]; exact congrArg Except.ok e2.symm
    | succ k => rw [rdMore, if_neg hw]; exact congrArg Except.ok e2.symm
  | e :: es, 0, s, ts, rest, _, hl, _, _, _, _, _, _, _ => by cases hl
  | e :: es, k + 1, s, ts, rest, he, hl, ha, ht, hr, hd, hf, h1, h2 => by
    rw [List.map_cons, List.flatten_cons] at ht
    obtain ⟨ta, tb, rfl, m1, m2⟩ := map_app_inv ht
    obtain ⟨tc, ta, rfl, m3, m4⟩ := map_cons_inv m1
    rw [List.map_cons, List.sum_cons] at h1 h2
    have ha' : s.ah = tc :: (ta ++ (tb ++ rest)) := by rw [ha]; simp
    have w := word_of ha'
    rw [rdMore, if_pos (w.1.trans m3)]
    have hs : s.step = s.adv 1 [] 0 0 := by
      unfold Rd.adv Rd.step kmk
      simp
    have f1 : Free s.step (p ++ [e.1]) := hf e List.mem_cons_self
    rw [he e List.mem_cons_self s.step ta (tb ++ rest) w.2.1 m4 f1 (by show s.nt + _ ≤ 6; omega) (by show s.nb + _ ≤ 6; omega)]
    show rdMore ent k _ = _
    have hd' := List.pairwise_cons.mp hd
    have g1 : ∀ x ∈ es, Free (s.step.adv ta.length (marks n (p ++ [e.1]) e.2) (nt n e.2) (nb n e.2)) (p ++ [x.1]) := fun x hx => Free.adv (s := s.step) (hf x (List.mem_cons_of_mem _ hx)) (marks_pre n e.2 (p ++ [e.1])) (ne_keys (hd'.1 x hx))
    have g2 : s.nt + nt n e.2 + (es.map fun e => nt n e.2).sum ≤ 6 := by omega
    have g3 : s.nb + nb n e.2 + (es.map fun e => nb n e.2).sum ≤ 6 := by omega
    rw [more_of es k _ tb rest (fun x hx => he x (List.mem_cons_of_mem _ hx)) (by simpa using hl) (adv_ah w.2.1 rfl _ _ _) m2 hr hd'.2 g1 g2 g3, hs, adv_adv, adv_adv]
    simp only [List.nil_append, Nat.zero_add, List.flatMap_cons, List.map_cons, List.sum_cons, List.length_cons, List.length_append]
    congr 2
    omega
theorem kinds_not {m : Str} (h : m ∈ modes) : kinds.contains m = false := by
  have : ∀ m ∈ modes, kinds.contains m = false := by decide +kernel
  exact this m h
theorem modes_in {m : Str} (h : m ∈ modes) : modes.contains m = true := List.contains_iff_mem.mpr h
/-- a table under p that is read -/
def ReadsT (n : Nat) (t : Tr n) (p : List Str) : Prop := ∀ (s : Rd) (ts rest : List (Nat × List Nat)), s.ah = ts ++ rest → ts.map tw = toks n t → Free s p → s.nt + nt n t ≤ 6 → s.nb + nb n t ≤ 6 → rdTable n (kp p) s = .ok (s.adv ts.length (marks n p t) (nt n t) (nb n t))
theorem head_tab : ∀ (n : Nat) (t : Tr n), t.isRight = true → Ok n t → ∃ m r, toks n t = m :: r ∧ m ∈ modes := by
  refine ind (fun n k h => by cases h) (fun n m es _ _ ho => ⟨m, _, rfl, ho.1⟩)
theorem read_ent {n : Nat} {p : List Str} {e : Str × Tr n} (hk : isKey e.1 = true) (ho : Ok n e.2) (hT : e.2.isRight = true → ReadsT n e.2 (p ++ [e.1])) : Reads1 (rdEntry (rdTable n) (kp p)) p n e := by
  intro s ts rest ha ht hf h1 h2
  obtain ⟨t0, ts, rfl, m0, ht⟩ := map_cons_inv ht
  obtain ⟨t1, ts, rfl, m1, ht⟩ := map_cons_inv ht
  have w := word_of ha
  have kk : kp p ++ [Sum.inr s.word] = kp (p ++ [e.1]) := by
    rw [kp_app, w.1, m0]
    rfl
  unfold rdEntry
  rw [if_neg (by rw [kk, val_none hf, w.1, m0, hk]; simp), take_of (s := s.step) w.2.1 m1]
  have hs : s.step.adv 1 [] 0 0 = s.adv 2 [] 0 0 := by
    unfold Rd.adv Rd.step kmk
    simp
  rw [hs]
  have ha2 : (s.adv 2 [] 0 0).ah = ts ++ rest := adv_ah (s := s) (ts := [t0, t1]) (rest := ts ++ rest) ha (k := 2) rfl [] 0 0
  have f2 : Free (s.adv 2 [] 0 0) (p ++ [e.1]) := fun q hq r => hf q (by simpa [Rd.adv, kmk] using hq) r
  rw [kk]
  show (if kinds.contains (s.adv 2 [] 0 0).word = false then rdTable n (kp (p ++ [e.1])) (s.adv 2 [] 0 0) else if (s.adv 2 [] 0 0).nb = 6 then _ else _) = _
  obtain ⟨key, t⟩ := e
  cases hR : t.isRight with
  | false =>
    obtain ⟨k, rfl⟩ : ∃ k, t = .inl k := by
      cases t with
      | inl k => exact ⟨k, rfl⟩
      | inr x => cases hR
    have ho : k ∈ kinds := by rw [← ok_bag (n := n)]; exact ho
    have ht : ts.map tw = [k] := by rw [← toks_bag (n := n)]; exact ht
    obtain ⟨t2, ts, rfl, m2, ht⟩ := map_cons_inv ht
    have e : ts = [] := List.map_eq_nil_iff.mp ht
    subst e
    have w2 := word_of ha2
    have hkc : kinds.contains (s.adv 2 [] 0 0).word = true := by
      rw [w2.1, m2]
      exact List.contains_iff_mem.mpr ho
    have h2 : s.nb + 1 ≤ 6 := by
      have : nb n (.inl k : Tr n) = 1 := nb_bag
      rw [← this]
      exact h2
    have n6 : ¬ (s.adv 2 [] 0 0).nb = 6 := by
      show ¬ s.nb + 0 = 6
      omega
    rw [if_neg (by rw [hkc]; decide), if_neg n6, put_new f2, w2.1, m2]
    show _ = Except.ok (s.adv 3 (marks n (p ++ [key]) (.inl k)) (nt n (.inl k)) (nb n (.inl k)))
    have e1 : marks n (p ++ [key]) (.inl k : Tr n) = [(p ++ [key], k)] := marks_bag
    have e2 : nt n (.inl k : Tr n) = 0 := nt_bag
    have e3 : nb n (.inl k : Tr n) = 1 := nb_bag
    rw [e1, e2, e3]
    unfold Rd.adv Rd.step kmk
    simp
  | true =>
    obtain ⟨m, r, e1, hm⟩ := head_tab n t hR ho
    have ht' := ht
    rw [e1] at ht'
    obtain ⟨t2, ts2, rfl, m2, _⟩ := map_cons_inv ht'
    have w2 := word_of ha2
    rw [if_pos (by rw [w2.1, m2]; exact kinds_not hm), hT hR (s.adv 2 [] 0 0) (t2 :: ts2) rest ha2 ht f2 h1 h2, adv_adv]
    simp only [List.nil_append, Nat.zero_add, List.length_cons]
    congr 2
    omega
theorem read_tab : ∀ (n : Nat) (t : Tr n), ∀ p, Ok n t → Few n t → t.isRight = true → ReadsT n t p := by
  refine ind (fun n k p _ _ h => by cases h) (fun n m es ih p ho hw _ s ts rest ha ht hf h1 h2 => ?_)
  rw [ok_tab] at ho
  rw [few_tab] at hw
  rw [toks_tab] at ht
  rw [nt_tab] at h1
  rw [nb_tab] at h2
  obtain ⟨hm, ne, hd, hes⟩ := ho
  have hent : ∀ e ∈ es, Reads1 (rdEntry (rdTable n) (kp p)) p n e := fun e he => read_ent (hes e he).1 (hes e he).2 fun hR => ih e he (p ++ [e.1]) (hes e he).2 (hw.2 e he) hR
  obtain ⟨t0, ts, rfl, m0, ht⟩ := map_cons_inv ht
  obtain ⟨t1, ts, rfl, m1, ht⟩ := map_cons_inv ht
  obtain ⟨te, tz, rfl, m2, m3⟩ := map_app_inv ht
  obtain ⟨tc, tz, rfl, m4, m5⟩ := map_cons_inv m3
  have e0 : tz = [] := List.map_eq_nil_iff.mp m5
  subst e0
  have w := word_of ha
  have n6 : ¬ s.nt = 6 := by omega
  have hmc : modes.contains s.word = true := by
    rw [w.1, m0]
    exact modes_in hm
  unfold rdTable
  rw [if_neg (by rw [hmc]; simp [n6])]
  have e1 : ({ s.step with nt := s.nt + 1, marks := putK s.marks (kp p) (.str s.word) } : Rd) = s.adv 1 [(p, m)] 1 0 := by
    rw [put_new hf, w.1, m0]
    unfold Rd.adv Rd.step kmk
    simp
  rw [e1]
  have ha1 : (s.adv 1 [(p, m)] 1 0).ah = t1 :: (te ++ (tc :: rest)) := adv_ah (s := s) (ts := [t0]) (rest := t1 :: (te ++ (tc :: rest))) (by rw [ha]; simp) (k := 1) rfl [(p, m)] 1 0
  rw [take_of ha1 m1, adv_adv]
  have ha2 : (s.adv (1 + 1) ([(p, m)] ++ []) (1 + 0) (0 + 0)).ah = te ++ (tc :: rest) := adv_ah (s := s) (ts := [t0, t1]) (rest := te ++ (tc :: rest)) (by rw [ha]; simp) (k := 1 + 1) rfl ([(p, m)] ++ []) (1 + 0) (0 + 0)
  generalize hs2 : s.adv (1 + 1) ([(p, m)] ++ []) (1 + 0) (0 + 0) = s2 at ha2
  have nt2 : s2.nt = s.nt + 1 := by rw [← hs2]; rfl
  have nb2 : s2.nb = s.nb := by rw [← hs2]; rfl
  have f2 : ∀ e ∈ es, Free s2 (p ++ [e.1]) := fun e _ => by
    rw [← hs2]
    intro q hq r eq
    rcases List.mem_append.mp (show q ∈ s.marks ++ kmk ([(p, m)] ++ []) from hq) with hq | hq
    · exact hf.under e.1 q hq r eq
    · have : q = (kp p, V.str m) := by simpa [kmk] using hq
      rw [this, kp_app, List.append_assoc] at eq
      have := congrArg List.length eq
      simp [kp] at this
  show Except.bind (rdEntry (rdTable n) (kp p) s2) _ = _
  cases es with
  | nil => exact absurd rfl ne
  | cons e es =>
    rw [List.map_cons, commas] at m2
    obtain ⟨ta, tb, rfl, m6, m7⟩ := map_app_inv m2
    rw [List.map_map] at m7
    rw [List.map_cons, List.sum_cons] at h1 h2
    have hd' := List.pairwise_cons.mp hd
    rw [hent e List.mem_cons_self s2 ta (tb ++ (tc :: rest)) (by rw [ha2]; simp) m6 (f2 e List.mem_cons_self) (by rw [nt2]; omega) (by rw [nb2]; omega)]
    show Except.bind (rdMore (rdEntry (rdTable n) (kp p)) 2 (s2.adv ta.length (marks n (p ++ [e.1]) e.2) (nt n e.2) (nb n e.2))) _ = _
    have ha3 := adv_ah (s := s2) (ts := ta) (rest := tb ++ (tc :: rest)) (by rw [ha2]; simp) rfl (marks n (p ++ [e.1]) e.2) (nt n e.2) (nb n e.2)
    have g0 : ∀ t r, tc :: rest = t :: r → tw t ≠ "," := fun t r q => by
      injection q with q1 q2
      rw [← q1, m4]
      decide
    have g1 : ∀ x ∈ es, Free (s2.adv ta.length (marks n (p ++ [e.1]) e.2) (nt n e.2) (nb n e.2)) (p ++ [x.1]) := fun x hx => (f2 x (List.mem_cons_of_mem _ hx)).adv (marks_pre n e.2 (p ++ [e.1])) (ne_keys (hd'.1 x hx))
    have g2 : s2.nt + nt n e.2 + (es.map fun e => nt n e.2).sum ≤ 6 := by
      rw [nt2]
      omega
    have g3 : s2.nb + nb n e.2 + (es.map fun e => nb n e.2).sum ≤ 6 := by
      rw [nb2]
      omega
    rw [more_of es 2 _ tb (tc :: rest) (fun x hx => hent x (List.mem_cons_of_mem _ hx)) (by have := hw.1; simp at this; omega) ha3 m7 g0 hd'.2 g1 g2 g3, adv_adv]
    show rdTake "}" _ = _
    have ha4 := adv_ah (s := s2) (ts := ta ++ tb) (rest := tc :: rest) (by rw [ha2]) (k := ta.length + tb.length) (by simp) (marks n (p ++ [e.1]) e.2 ++ es.flatMap fun e => marks n (p ++ [e.1]) e.2) (nt n e.2 + (es.map fun e => nt n e.2).sum) (nb n e.2 + (es.map fun e => nb n e.2).sum)
    rw [take_of ha4 m4, adv_adv, ← hs2, adv_adv, marks_tab, nt_tab, nb_tab]
    simp only [List.nil_append, List.append_nil, List.singleton_append, Nat.zero_add, Nat.add_zero, List.flatMap_cons, List.map_cons, List.sum_cons, List.length_cons, List.length_append, List.length_nil, List.cons_append]
    congr 2
    omega
end Tr
end L2.G42

set_option Elab.async false
set_option linter.all false
set_option maxRecDepth 100000
set_option maxHeartbeats 4000000
namespace L2.G42
open PySem PySem.Spec
theorem lexS_pre : ∀ (p a b : List Str), lexS (p ++ a) (p ++ b) = lexS a b
  | [], _, _ => rfl
  | x :: p, a, b => by
    show (if x = x then lexS (p ++ a) (p ++ b) else ltS x x) = _
    rw [if_pos rfl]
    exact lexS_pre p a b
theorem lexS_key {a b : Str} (h : ltS a b = true) (p r r' : List Str) : lexS ((p ++ [a]) ++ r) ((p ++ [b]) ++ r') = true := by
  rw [List.append_assoc, List.append_assoc, lexS_pre]
  show (if a = b then lexS r r' else ltS a b) = true
  rw [if_neg (fun e => by rw [e, ltS_irrefl] at h; cases h)]
  exact h
theorem perm_flatMap {α β : Type} (f : α → List β) : ∀ {l m : List α}, l.Perm m → (l.flatMap f).Perm (m.flatMap f) := fun {l m} h => by
  induction h with
  | nil => exact List.Perm.refl _
  | cons x _ ih => rw [List.flatMap_cons, List.flatMap_cons]; exact ih.append_left _
  | swap x y l =>
    rw [List.flatMap_cons, List.flatMap_cons, List.flatMap_cons, List.flatMap_cons, ← List.append_assoc, ← List.append_assoc]
    exact List.perm_append_comm.append_right _
  | trans _ _ h1 h2 => exact h1.trans h2
theorem perm_flatMap_each {α β : Type} {f g : α → List β} : ∀ {l : List α}, (∀ x ∈ l, (f x).Perm (g x)) → (l.flatMap f).Perm (l.flatMap g)
  | [], _ => List.Perm.refl _
  | x :: l, h => by
    rw [List.flatMap_cons, List.flatMap_cons]
    exact (h x List.mem_cons_self).append (perm_flatMap_each fun y hy => h y (List.mem_cons_of_mem _ hy))
theorem flatMap_same {α β : Type} {f g : α → List β} : ∀ {l : List α}, (∀ x ∈ l, f x = g x) → l.flatMap f = l.flatMap g
  | [], _ => rfl
  | x :: l, h => by
    rw [List.flatMap_cons, List.flatMap_cons, h x List.mem_cons_self, flatMap_same fun y hy => h y (List.mem_cons_of_mem _ hy)]
namespace Tr
theorem srt_es {n : Nat} {es : List (Str × Tr n)} (hd : DiffBy (·.1) es) : srtBy ltS (·.1) (es.map fun e => (e.1, srt n e.2)) = (srtBy ltS (·.1) es).map fun e => (e.1, srt n e.2) := srtBy_map tot_ltS (k := (·.1)) (f := fun e : Str × Tr n => (e.1, srt n e.2)) (fun _ => rfl) hd
theorem marks_srt : ∀ (n : Nat) (t : Tr n), Ok n t → ∀ p, (marks n p (srt n t)).Perm (marks n p t) ∧ UpBy lexS (·.1) (marks n p (srt n t)) := by
  refine ind (fun n k _ p => ?_) (fun n m es ih ho p => ?_)
  · rw [srt_bag, marks_bag]
    exact ⟨List.Perm.refl _, List.pairwise_singleton _ _⟩
  · obtain ⟨hm, ne, hd, hes⟩ := ho
    rw [srt_tab, srt_es hd, marks_tab, marks_tab, List.flatMap_map]
    refine ⟨List.Perm.cons _ ?_, List.pairwise_cons.mpr ⟨fun q hq => ?_, ?_⟩⟩
    · refine (perm_flatMap_each fun e he => (ih e (srtBy_mem.mp he) (hes e (srtBy_mem.mp he)).2 (p ++ [e.1])).1).trans ?_
      exact perm_flatMap _ (srtBy_perm es)
    · obtain ⟨e, he, hq⟩ := List.mem_flatMap.mp hq
      obtain ⟨r, hr⟩ := marks_pre n (srt n e.2) (p ++ [e.1]) q hq
      show lexS p q.1 = true
      rw [hr]
      have := lexS_pre p [] ([e.1] ++ r)
      rw [List.append_nil] at this
      rw [List.append_assoc, this]
      rfl
    · rw [List.pairwise_flatMap]
      refine ⟨fun e he => (ih e (srtBy_mem.mp he) (hes e (srtBy_mem.mp he)).2 (p ++ [e.1])).2, ?_⟩
      refine (srtBy_up tot_ltS hd).imp fun {a b} hab x hx y hy => ?_
      obtain ⟨r, hr⟩ := marks_pre n (srt n a.2) (p ++ [a.1]) x hx
      obtain ⟨r', hr'⟩ := marks_pre n (srt n b.2) (p ++ [b.1]) y hy
      show lexS x.1 y.1 = true
      rw [hr, hr']
      exact lexS_key hab p r r'
/-- the places sorted -/
theorem marks_sorted {n : Nat} {t : Tr n} (ho : Ok n t) (p : List Str) : srtBy lexS (·.1) (marks n p t) = marks n p (srt n t) :=
  (srtBy_uniq tot_lexS (marks_srt n t ho p).1 (marks_srt n t ho p).2).symm
theorem marks_diff {n : Nat} {t : Tr n} (ho : Ok n t) (p : List Str) : DiffBy (·.1) (marks n p t) := ((marks_srt n t ho p).2.diff tot_lexS).perm (marks_srt n t ho p).1.symm
theorem ok_srt : ∀ (n : Nat) (t : Tr n), Ok n t → Ok n (srt n t) := by
  refine ind (fun n k h => by rw [srt_bag]; exact h) (fun n m es ih ho => ?_)
  obtain ⟨hm, ne, hd, hes⟩ := ho
  rw [srt_tab, srt_es hd, ok_tab]
  refine ⟨hm, fun e => ne ?_, ?_, fun e he => ?_⟩
  · have : (srtBy ltS (·.1) es).length = 0 := by rw [List.map_eq_nil_iff.mp e]; rfl
    rw [srtBy_len] at this
    exact List.eq_nil_of_length_eq_zero this
  · exact List.pairwise_map.mpr (hd.perm (srtBy_perm es))
  · obtain ⟨x, hx, rfl⟩ := List.mem_map.mp he
    have hx' := srtBy_mem.mp hx
    exact ⟨(hes x hx').1, ih x hx' (hes x hx').2⟩
/-- its entries stand ascending -/
def Up : (n : Nat) → Tr n → Prop
  | _, .inl _ => True
  | 0, .inr x => nomatch x
  | n + 1, .inr (_, es) => UpBy ltS (·.1) es ∧ ∀ e ∈ es, Up n e.2
theorem up_tab {n : Nat} {m : Str} {es : List (Str × Tr n)} : Up (n + 1) (tab m es) = (UpBy ltS (·.1) es ∧ ∀ e ∈ es, Up n e.2) := rfl
theorem up_bag {n : Nat} {k : Str} : Up n (bag k) = True := by cases n <;> rfl
theorem srt_up : ∀ (n : Nat) (t : Tr n), Ok n t → Up n (srt n t) := by
  refine ind (fun n k h => by rw [srt_bag, up_bag]; trivial) (fun n m es ih ho => ?_)
  obtain ⟨hm, ne, hd, hes⟩ := ho
  rw [srt_tab, srt_es hd, up_tab]
  refine ⟨List.pairwise_map.mpr (srtBy_up tot_ltS hd), fun e he => ?_⟩
  obtain ⟨x, hx, rfl⟩ := List.mem_map.mp he
  exact ih x (srtBy_mem.mp hx) (hes x (srtBy_mem.mp hx)).2
theorem srt_id : ∀ (n : Nat) (t : Tr n), Up n t → srt n t = t := by
  refine ind (fun n k _ => srt_bag) (fun n m es ih h => ?_)
  obtain ⟨h1, h2⟩ := h
  rw [srt_tab]
  have e : (es.map fun e => (e.1, srt n e.2)) = es := by
    have : es.map (fun e => (e.1, srt n e.2)) = es.map id := List.map_congr_left fun e he => by rw [ih e he (h2 e he)]; rfl
    rw [this, List.map_id]
  rw [e, srtBy_of_up tot_ltS h1]
theorem nb_srt : ∀ (n : Nat) (t : Tr n), Ok n t → nb n (srt n t) = nb n t := by
  refine ind (fun n k _ => by rw [srt_bag]) (fun n m es ih ho => ?_)
  obtain ⟨hm, ne, hd, hes⟩ := ho
  rw [srt_tab, srt_es hd, nb_tab, nb_tab, List.map_map]
  have e : (srtBy ltS (·.1) es).map ((fun e => nb n e.2) ∘ fun e => (e.1, srt n e.2)) = (srtBy ltS (·.1) es).map fun e => nb n e.2 := List.map_congr_left fun e he => ih e (srtBy_mem.mp he) (hes e (srtBy_mem.mp he)).2
  rw [e]
  exact ((srtBy_perm es).map _).sum_nat
end Tr
/-! the rows of a tree: each place with its item -/
structure Row where
  pl : List Str
  k : Nat
  t : Tr k
namespace Tr
def rows : (n : Nat) → List Str → Tr n → List Row
  | n, p, .inl k => [⟨p, n, .inl k⟩]
  | 0, _, .inr x => nomatch x
  | n + 1, p, .inr (m, es) => ⟨p, n + 1, tab m es⟩ :: es.flatMap fun e => rows n (p ++ [e.1]) e.2
theorem rows_bag {n : Nat} {k : Str} {p : List Str} : rows n p (bag k) = [⟨p, n, bag k⟩] := by cases n <;> rfl
theorem rows_tab {n : Nat} {m : Str} {es : List (Str × Tr n)} {p : List Str} : rows (n + 1) p (tab m es) = ⟨p, n + 1, tab m es⟩ :: es.flatMap fun e => rows n (p ++ [e.1]) e.2 := rfl
theorem marks_rows : ∀ (n : Nat) (t : Tr n) (p : List Str), marks n p t = (rows n p t).map fun r => (r.pl, mark r.k r.t) := by
  refine ind (fun n k p => ?_) (fun n m es ih p => ?_)
  · rw [marks_bag, rows_bag, List.map_singleton, mark_bag]
  · rw [marks_tab, rows_tab, List.map_cons, mark_tab, List.map_flatMap]
    congr 1
    exact flatMap_same fun e he => ih e he (p ++ [e.1])
theorem rows_self : ∀ (n : Nat) (t : Tr n) (p : List Str), ⟨p, n, t⟩ ∈ rows n p t := by
  refine ind (fun n k p => ?_) (fun n m es ih p => List.mem_cons_self)
  rw [rows_bag]
  exact List.mem_singleton.mpr rfl
theorem rows_pre : ∀ (n : Nat) (t : Tr n) (p : List Str), ∀ r ∈ rows n p t, ∃ q, r.pl = p ++ q := by
  intro n t p r hr
  have : (r.pl, mark r.k r.t) ∈ marks n p t := by rw [marks_rows]; exact List.mem_map.mpr ⟨r, hr, rfl⟩
  exact marks_pre n t p _ this
/-- what is under an item of a tree is in the tree -/
theorem rows_in : ∀ (n : Nat) (t : Tr n) (p : List Str), ∀ r ∈ rows n p t, ∀ (k : Nat) (m : Str) (es : List (Str × Tr k)), r = ⟨r.pl, k + 1, tab m es⟩ → ∀ e ∈ es, ⟨r.pl ++ [e.1], k, e.2⟩ ∈ rows n p t := by
  refine ind (fun n k p r hr k' m es e x hx => ?_) (fun n m es ih p r hr k' m' es' e x hx => ?_)
  · rw [rows_bag] at hr
    rw [List.mem_singleton.mp hr] at e
    injection e with _ e1 e2
    subst e1
    cases e2
  · rw [rows_tab] at hr ⊢
    rcases List.mem_cons.mp hr with e1 | hr
    · subst e1
      injection e with _ e1 e2
      injection e1 with e1
      subst e1
      have e3 : (m, es) = (m', es') := by
        have := eq_of_heq e2
        injection this
      injection e3 with e4 e5
      subst e5
      exact List.mem_cons_of_mem _ (List.mem_flatMap.mpr ⟨x, hx, rows_self n x.2 _⟩)
    · obtain ⟨y, hy, hr⟩ := List.mem_flatMap.mp hr
      exact List.mem_cons_of_mem _ (List.mem_flatMap.mpr ⟨y, hy, ih y hy _ r hr k' m' es' e x hx⟩)
theorem rows_ok : ∀ (n : Nat) (t : Tr n), Ok n t → ∀ p, ∀ r ∈ rows n p t, Ok r.k r.t ∧ r.k ≤ n := by
  refine ind (fun n k h p r hr => ?_) (fun n m es ih ho p r hr => ?_)
  · rw [rows_bag] at hr
    rw [List.mem_singleton.mp hr]
    exact ⟨h, Nat.le_refl _⟩
  · rw [rows_tab] at hr
    rcases List.mem_cons.mp hr with e1 | hr
    · rw [e1]
      exact ⟨ho, Nat.le_refl _⟩
    · obtain ⟨y, hy, hr⟩ := List.mem_flatMap.mp hr
      have := ih y hy (ho.2.2.2 y hy).2 _ r hr
      exact ⟨this.1, Nat.le_succ_of_le this.2⟩
end Tr
end L2.G42

set_option Elab.async false
set_option linter.all false
set_option maxRecDepth 100000
set_option maxHeartbeats 4000000
namespace L2.G42
open PySem PySem.Spec
def isChild (p q : List Str) : Bool := decide (q.length = p.length + 1) && decide (q.dropLast = p)
def lastS (q : List Str) : Str := q.getLastD ""
/-- the keys under p -/
def ku (ms : List (List Str × Str)) (p : List Str) : List Str := (ms.filter fun q => isChild p q.1).map fun q => lastS q.1
theorem ku_app (a b : List (List Str × Str)) (p : List Str) : ku (a ++ b) p = ku a p ++ ku b p := by
  unfold ku
  rw [List.filter_append, List.map_append]
theorem ku_none {ms : List (List Str × Str)} {p : List Str} (h : ∀ q ∈ ms, isChild p q.1 = false) : ku ms p = [] := by
  unfold ku
  rw [List.filter_eq_nil_iff.mpr fun q hq => by rw [h q hq]; decide]
  rfl
theorem isChild_self (p : List Str) (a : Str) : isChild p (p ++ [a]) = true := by
  unfold isChild
  simp
theorem isChild_len {p q : List Str} (h : q.length ≠ p.length + 1) : isChild p q = false := by
  unfold isChild
  rw [decide_eq_false h]
  rfl
theorem lastS_app (p : List Str) (a : Str) : lastS (p ++ [a]) = a := by
  unfold lastS
  simp
namespace Tr
theorem marks_head : ∀ (n : Nat) (t : Tr n) (p : List Str), ∃ tl, marks n p t = (p, mark n t) :: tl ∧ ∀ q ∈ tl, p.length < q.1.length := by
  refine ind (fun n k p => ⟨[], by rw [marks_bag, mark_bag], by simp⟩) (fun n m es ih p => ⟨_, marks_tab, fun q hq => ?_⟩)
  obtain ⟨e, he, hq⟩ := List.mem_flatMap.mp hq
  obtain ⟨r, hr⟩ := marks_pre n e.2 (p ++ [e.1]) q hq
  rw [hr, List.length_append, List.length_append, List.length_singleton]
  omega
theorem ku_child (n : Nat) (t : Tr n) (p : List Str) (a : Str) : ku (marks n (p ++ [a]) t) p = [a] := by
  obtain ⟨tl, h1, h2⟩ := marks_head n t (p ++ [a])
  rw [h1]
  have : ku tl p = [] := ku_none fun q hq => isChild_len (by have := h2 q hq; simp at this; omega)
  show ku ([(p ++ [a], mark n t)] ++ tl) p = [a]
  rw [ku_app, this, List.append_nil]
  have e : ([(p ++ [a], mark n t)] : List (List Str × Str)).filter (fun q => isChild p q.1) = [(p ++ [a], mark n t)] := by
    rw [List.filter_cons, if_pos (isChild_self p a), List.filter_nil]
  unfold ku
  rw [e, List.map_singleton, lastS_app]
theorem ku_other (n : Nat) (t : Tr n) (p r : List Str) {a b : Str} (h : a ≠ b) : ku (marks n (p ++ [b]) t) ((p ++ [a]) ++ r) = [] := by
  refine ku_none fun q hq => ?_
  obtain ⟨r', hr'⟩ := marks_pre n t (p ++ [b]) q hq
  cases e : isChild ((p ++ [a]) ++ r) q.1 with
  | false => rfl
  | true =>
    unfold isChild at e
    rw [Bool.and_eq_true, decide_eq_true_eq, decide_eq_true_eq] at e
    obtain ⟨e1, e2⟩ := e
    rw [hr'] at e1 e2
    have : r' ≠ [] := fun z => by
      subst z
      simp at e1
    rw [List.dropLast_append_of_ne_nil this] at e2
    exact absurd e2.symm (ne_keys h r r'.dropLast)
theorem ku_rows : ∀ (n : Nat) (t : Tr n), Ok n t → ∀ p, ∀ r ∈ rows n p t, ku (marks n p t) r.pl = keys r.k r.t := by
  refine ind (fun n k _ p r hr => ?_) (fun n m es ih ho p r hr => ?_)
  · rw [rows_bag] at hr
    rw [List.mem_singleton.mp hr, marks_bag, keys_bag]
    exact ku_none fun q hq => by
      rw [List.mem_singleton.mp hq]
      exact isChild_len (by simp)
  · obtain ⟨hm, ne, hd, hes⟩ := ho
    rw [rows_tab] at hr
    have top : ∀ q : List Str, p.length ≤ q.length → ku (marks (n + 1) p (tab m es)) q = ku (es.flatMap fun e => marks n (p ++ [e.1]) e.2) q := fun q hq => by
      have h0 : ku [(p, m)] q = [] := ku_none fun x hx => by
        rw [List.mem_singleton.mp hx]
        exact isChild_len (by show p.length ≠ _; omega)
      rw [marks_tab]
      show ku ([(p, m)] ++ es.flatMap fun e => marks n (p ++ [e.1]) e.2) q = _
      rw [ku_app, h0, List.nil_append]
    rcases List.mem_cons.mp hr with e | hr
    · rw [e, top p (Nat.le_refl _), keys_tab]
      clear e top hr ih hd hes ne
      induction es with
      | nil => rfl
      | cons x es ih => rw [List.flatMap_cons, ku_app, ku_child, List.map_cons, ih]; rfl
    · obtain ⟨e, he, hr2⟩ := List.mem_flatMap.mp hr
      obtain ⟨q, hq⟩ := rows_pre n e.2 (p ++ [e.1]) r hr2
      rw [top r.pl (by rw [hq, List.length_append, List.length_append]; omega)]
      obtain ⟨s, t, rfl⟩ := List.append_of_mem he
      have hd' := List.pairwise_append.mp hd
      have hd2 := List.pairwise_cons.mp hd'.2.1
      have no : ∀ l : List (Str × Tr n), (∀ x ∈ l, x.1 ≠ e.1) → ku (l.flatMap fun e => marks n (p ++ [e.1]) e.2) r.pl = [] := fun l hl => by
        induction l with
        | nil => rfl
        | cons x l ih2 =>
          rw [List.flatMap_cons, ku_app, ih2 fun y hy => hl y (List.mem_cons_of_mem _ hy), hq, ku_other n x.2 p q (hl x List.mem_cons_self).symm]
          rfl
      rw [List.flatMap_append, List.flatMap_cons, ku_app, ku_app, no s fun x hx => hd'.2.2 x hx e List.mem_cons_self, no t fun x hx => (hd2.1 x hx).symm, ih e he (hes e he).2 (p ++ [e.1]) r hr2]
      simp
theorem rows_bag_mark : ∀ (n : Nat) (t : Tr n), Ok n t → (kinds.contains (mark n t) = true ↔ t.isLeft = true) := by
  refine ind (fun n k h => ?_) (fun n m es _ h => ?_)
  · rw [mark_bag]
    exact ⟨fun _ => rfl, fun _ => List.contains_iff_mem.mpr (by rw [← ok_bag (n := n)]; exact h)⟩
  · rw [mark_tab, kinds_not h.1]
    exact ⟨fun q => (nomatch q), fun q => (nomatch q)⟩
end Tr
/-! marks looked up -/
theorem val_mem {ms : List (List Str × Str)} (hd : DiffBy (·.1) ms) {p : List Str} {k : Str} (h : (p, k) ∈ ms) : valV (kmk ms) (kp p) = some (.str k) := by
  induction ms with
  | nil => cases h
  | cons q ms ih =>
    have hd' := List.pairwise_cons.mp hd
    show ((kmk (q :: ms)).find? _).map _ = _
    rw [show kmk (q :: ms) = (kp q.1, V.str q.2) :: kmk ms from rfl, List.find?_cons]
    rcases List.mem_cons.mp h with e | h
    · rw [← e]
      simp
    · have ne : ¬ kp q.1 = kp p := fun e => hd'.1 _ h (kp_inj e)
      simp only [decide_eq_false ne]
      exact ih hd'.2 h
theorem val_not {ms : List (List Str × Str)} {k : List Key} (h : ∀ q ∈ ms, kp q.1 ≠ k) : valV (kmk ms) k = none := by
  unfold valV
  rw [Option.map_eq_none_iff, List.find?_eq_none]
  intro q hq e
  obtain ⟨x, hx, rfl⟩ := List.mem_map.mp hq
  exact h x hx (of_decide_eq_true e)
theorem val_row {n : Nat} {t : Tr n} (ho : Tr.Ok n t) {p : List Str} {r : Row} (hr : r ∈ Tr.rows n p t) : valV (kmk (Tr.marks n p t)) (kp r.pl) = some (.str (Tr.mark r.k r.t)) :=
  val_mem (Tr.marks_diff ho p) (by rw [Tr.marks_rows]; exact List.mem_map.mpr ⟨r, hr, rfl⟩)
theorem putM_new {ms : List (List Str × Str)} {p : List Str} (h : ∀ q ∈ ms, q.1 ≠ p) (k : Str) : putK (kmk ms) (kp p) (.str k) = kmk (ms ++ [(p, k)]) := by
  unfold putK
  rw [if_neg]
  · rw [kmk_app]; rfl
  · intro e
    obtain ⟨q, hq, e⟩ := List.any_eq_true.mp e
    obtain ⟨x, hx, rfl⟩ := List.mem_map.mp hq
    exact h x hx (kp_inj (of_decide_eq_true e))
end L2.G42

set_option Elab.async false
set_option linter.all false
set_option maxRecDepth 100000
set_option maxHeartbeats 4000000
namespace L2.G42
open PySem PySem.Spec PyProof.Rows
section
variable {X : Cx} {K : PySem.W.Frag}
/-! rules with the written part named (within a comprehension) -/
theorem kLen (hK : X.K = K) : CallR X (.builtin "len") (fun xs H Q => ∃ p ys, xs = [.ref p] ∧ (SqL K H p ys ∨ SqT K H p ys) ∧ Q (.int ys.length) H) := by subst hK; exact call_len_seq
theorem kIxL (hK : X.K = K) : IxR X (rIxL K) := by subst hK; exact ix_list
theorem kIxT (hK : X.K = K) : IxR X (rIxT K) := by subst hK; exact ix_tup
theorem kSlT (hK : X.K = K) : SlR X (rSlA K) := by subst hK; exact sl_tupA
theorem kSlL (hK : X.K = K) : SlR X (rSlL K) := by subst hK; exact sl_list
theorem kEqD (hK : X.K = K) (hu : X.A.units + 64 < cLine) : OpR X (compareOp .Eq) (rEqD K) := by subst hK; exact op_eqD hu
theorem kNeD (hK : X.K = K) (hu : X.A.units + 64 < cLine) : OpR X (compareOp .NotEq) (rNeD K) := by subst hK; exact op_neD hu
theorem kIn (hK : X.K = K) : OpR X (compareOp .In) (rIn K false) := by subst hK; exact op_in_seq
theorem kNotIn (hK : X.K = K) : OpR X (compareOp .NotIn) (rIn K true) := by subst hK; exact op_notIn_seq
theorem kCatT (hK : X.K = K) : OpR X (binaryOp .Add) (rCatA K) := by subst hK; exact op_catA
theorem kListOf (hK : X.K = K) : CallR X (.type "list") (fun xs H Q => ∃ p ys, xs = [.ref p] ∧ (SqL K H p ys ∨ SqT K H p ys) ∧ ∀ l, H l = none → Q (.ref l) (upd H l (.lst ys))) := by subst hK; exact call_list_of
theorem kTupOf (hK : X.K = K) : CallR X (.type "tuple") (fun xs H Q => ∃ p ys, xs = [.ref p] ∧ ((SqL K H p ys ∧ ∀ l, H l = none → Q (.ref l) (upd H l (.tup ys))) ∨ (SqT K H p ys ∧ Q (.ref p) H))) := by subst hK; exact call_tuple_of
theorem kSortLS (hK : X.K = K) (hu : X.A.units + 64 < cLine) : CallR X (.builtin "sorted") (rSortLS K) := by subst hK; exact cr_sortLS hu
theorem kIsi (hK : X.K = K) : CallR X (.builtin "isinstance") (rIsi K) := by subst hK; exact call_isi
/-! ' ' * k -/
def rRepS : R2 := fun x y H Q => ∃ k : Nat, x = .str " " ∧ y = .int k ∧ k ≤ 1000 ∧ Q (.str (tx (List.replicate k 32))) H
theorem rep_cps : ∀ k : Nat, (List.replicate k (Str.ofString " ").cps).foldl (· ++ ·) (#[] : Array Nat) = (List.replicate k 32).toArray := by
  have gen : ∀ (k : Nat) (a : Array Nat), (List.replicate k (Str.ofString " ").cps).foldl (· ++ ·) a = a ++ (List.replicate k 32).toArray := by
    intro k
    induction k with
    | zero => intro a; simp
    | succ k ih =>
      intro a
      have e : (Str.ofString " ").cps = #[32] := by decide +kernel
      rw [List.replicate_succ, List.foldl_cons, ih, List.replicate_succ, e]
      apply Array.toList_inj.mp
      simp
  intro k
  rw [gen]
  simp
theorem op_repS : OpR X (binaryOp .Mult) rRepS := by
  intro pins s σ H x y u v Q I rx ry h
  obtain ⟨k, rfl, rfl, hk, q⟩ := h
  obtain ⟨t, rfl⟩ := rx
  obtain ⟨t', rfl⟩ := ry
  have l1 : (Str.ofString " ").length = 1 := by decide +kernel
  refine PySem.P.mul_str ?_ (fun _ _ => ?_) (fun _ _ => ?_) ?_
  · rw [decide_eq_false (by omega), decide_eq_false (by omega)]
    rfl
  · rw [l1]
    have : (2 ^ 63 - 1 : Int) / (k : Int) ≥ 1 ∨ (k : Int) = 0 := by
      by_cases h0 : k = 0
      · right; omega
      · left
        exact Int.le_ediv_of_mul_le (by omega) (by omega)
    rcases this with h | h
    · omega
    · rename_i h1 _
      omega
  · rw [l1]
    have : k < sizeLine := szl (by omega)
    refine decide_eq_false ?_
    have e : (k : Int).toNat = k := by omega
    rw [e]
    omega
  · split
    · have : k = 0 := by omega
      subst this
      exact ⟨by decide, ⟨.str _, H, I.tok _, ⟨_, rfl⟩, q⟩⟩
    · split
      · rename_i h1 h2
        have : k = 1 := by
          rw [l1] at h2
          simp at h2
          omega
        subst this
        have e : (tx (List.replicate 1 32) : Str) = Str.ofString " " := by decide +kernel
        rw [e] at q
        exact ⟨.str _, H, I, ⟨_, rfl⟩, q⟩
      · have e : (k : Int).toNat = k := by omega
        rw [e, rep_cps]
        refine ⟨?_, ⟨.str _, H, I.tok _, ⟨_, rfl⟩, q⟩⟩
        have : k < sizeLine := szl (by omega)
        show (List.replicate k 32).toArray.size ≤ sizeLine
        simp
        omega
end
/-! tuples and lists of texts as data -/
def dS (xs : List Str) : List PyData := xs.map PyData.str
theorem dpS {K : PySem.W.Frag} {H : Hp} : ∀ xs : List Str, DpAll K H (xs.map V.str) (dS xs)
  | [] => .nil
  | x :: xs => .cons (.str x) (dpS xs)
/-- texts that can be shown -/
def SoAll (xs : List Str) : Prop := ∀ x ∈ xs, PyData.strOk x = true
theorem canS : ∀ xs : List Str, SoAll xs → PyData.canLayAll0 (dS xs) = true
  | [], _ => by simp [dS, PyData.canLayAll0]
  | x :: xs, h => by
    show PyData.canLayAll0 (.str x :: dS xs) = true
    rw [PyData.canLayAll0, canS xs fun y hy => h y (List.mem_cons_of_mem _ hy)]
    simp [PyData.canLay0, h x List.mem_cons_self]
theorem depS : ∀ xs : List Str, PyData.depthAll (dS xs) = 0
  | [] => by simp [dS, PyData.depthAll]
  | x :: xs => by
    show PyData.depthAll (.str x :: dS xs) = 0
    rw [PyData.depthAll, depS xs]
    simp [PyData.depth]
theorem shapedT {xs : List Str} (h : SoAll xs) : SeqAt.shaped (.tuple (dS xs)) = true := by
  refine Bool.and_eq_true_iff.mpr ⟨?_, decide_eq_true ?_⟩
  · rw [PyData.canLay0]; exact canS xs h
  · rw [PyData.depth, depS xs]; decide
theorem shapedL {xs : List Str} (h : SoAll xs) : SeqAt.shaped (.list (dS xs)) = true := by
  refine Bool.and_eq_true_iff.mpr ⟨?_, decide_eq_true ?_⟩
  · rw [PyData.canLay0]; exact canS xs h
  · rw [PyData.depth, depS xs]; decide
theorem eqv_strs : ∀ xs ys : List Str, PyData.eqvAll (dS xs) (dS ys) = decide (xs = ys)
  | [], [] => by simp [dS, PyData.eqvAll]
  | [], y :: ys => by simp [dS, PyData.eqvAll]
  | x :: xs, [] => by simp [dS, PyData.eqvAll]
  | x :: xs, y :: ys => by
    show PyData.eqvAll (.str x :: dS xs) (.str y :: dS ys) = _
    rw [PyData.eqvAll, eqv_strs xs ys]
    have : PyData.eqv (.str x) (.str y) = decide (x = y) := by
      rw [PyData.eqv]
      rw [Bool.eq_iff_iff, decide_eq_true_eq]
      exact beq_iff_eq
    rw [this]
    by_cases h : x = y
    · subst h; simp
    · simp [h]
theorem eqv_tup (xs ys : List Str) : PyData.eqv (.tuple (dS xs)) (.tuple (dS ys)) = decide (xs = ys) := by
  rw [PyData.eqv, eqv_strs]
theorem eqv_lst (xs ys : List Str) : PyData.eqv (.list (dS xs)) (.list (dS ys)) = decide (xs = ys) := by
  rw [PyData.eqv, eqv_strs]
theorem kV_kp (p : List Str) : (kp p).map kV = p.map V.str := by
  unfold kp
  rw [List.map_map]
  rfl
theorem dpT {K : PySem.W.Frag} {H : Hp} {a : Addr} {p : List Str} (h : SqT K H a (p.map V.str)) : Dp K H (.ref a) (.tuple (dS p)) := .tup h (dpS p)
theorem dpL {K : PySem.W.Frag} {H : Hp} {a : Addr} {p : List Str} (h : SqL K H a (p.map V.str)) : Dp K H (.ref a) (.list (dS p)) := .lst h (dpS p)
theorem key_so {x : Str} (h : isKey x = true) : PyData.strOk x = true := by
  unfold isKey at h
  simp only [Bool.and_eq_true] at h
  have h2 := List.all_eq_true.mp h.2.2
  unfold PyData.strOk
  rw [Array.all_eq_true_iff_forall_mem]
  intro c hc
  have := h2 c (Array.mem_toList_iff.mpr hc)
  unfold letter at this
  simp at this
  simp
  omega
theorem key_len {x : Str} (h : isKey x = true) : 1 ≤ x.length ∧ x.length ≤ 8 := by
  unfold isKey at h
  simp only [Bool.and_eq_true, decide_eq_true_eq] at h
  exact h.1
end L2.G42

set_option Elab.async false
set_option linter.all false
set_option maxRecDepth 100000
set_option maxHeartbeats 4000000
namespace L2.G42
open PySem PySem.Spec
def SoMs (ms : List (List Str × Str)) : Prop := ∀ q ∈ ms, SoAll q.1
theorem SoAll.app {p q : List Str} (h : SoAll p) (h2 : SoAll q) : SoAll (p ++ q) := fun x hx => (List.mem_append.mp hx).elim (h x) (h2 x)
theorem SoAll.one {x : Str} (h : PyData.strOk x = true) : SoAll [x] := fun y hy => by rw [List.mem_singleton.mp hy]; exact h
namespace Tr
theorem so_marks : ∀ (n : Nat) (t : Tr n), Ok n t → ∀ p, SoAll p → SoMs (marks n p t) := by
  refine ind (fun n k _ p hp q hq => ?_) (fun n m es ih ho p hp q hq => ?_)
  · rw [marks_bag] at hq
    rw [List.mem_singleton.mp hq]
    exact hp
  · rw [marks_tab] at hq
    rcases List.mem_cons.mp hq with e | hq
    · rw [e]; exact hp
    · obtain ⟨e, he, hq⟩ := List.mem_flatMap.mp hq
      exact ih e he (ho.2.2.2 e he).2 _ (hp.app (SoAll.one (key_so (ho.2.2.2 e he).1))) q hq
theorem rows_len : ∀ (n : Nat) (t : Tr n) (p : List Str), ∀ r ∈ rows n p t, (rows r.k r.pl r.t).length ≤ (rows n p t).length := by
  refine ind (fun n k p r hr => ?_) (fun n m es ih p r hr => ?_)
  · rw [rows_bag] at hr
    rw [List.mem_singleton.mp hr]
    exact Nat.le_refl _
  · rw [rows_tab] at hr ⊢
    rcases List.mem_cons.mp hr with e1 | hr
    · rw [e1]
      exact Nat.le_refl _
    · obtain ⟨y, hy, hr⟩ := List.mem_flatMap.mp hr
      have h1 := ih y hy _ r hr
      obtain ⟨a, b, rfl⟩ := List.append_of_mem hy
      rw [List.flatMap_append, List.flatMap_cons, List.length_cons, List.length_append, List.length_append]
      omega
theorem marks_len (n : Nat) (t : Tr n) (p : List Str) : (marks n p t).length = (rows n p t).length := by rw [marks_rows, List.length_map]
theorem join_len (y : Str) : ∀ xs : List Str, (Txt.join y xs).length ≤ (xs.map fun x => x.length + y.length).sum
  | [] => by
    rw [TL.join_eq]
    exact Nat.zero_le _
  | [x] => by
    rw [TL.join_eq]
    show x.length ≤ _
    simp
  | x :: z :: r => by
    have ih := join_len y (z :: r)
    rw [TL.join_eq] at ih ⊢
    show (x ++ y ++ Str.join y (z :: r)).length ≤ _
    rw [List.map_cons, List.sum_cons]
    have e : (x ++ y ++ Str.join y (z :: r)).length = x.length + y.length + (Str.join y (z :: r)).length := by
      show ((x.cps ++ y.cps) ++ (Str.join y (z :: r)).cps).size = _
      rw [Array.size_append, Array.size_append]
      rfl
    omega
theorem app_len (x y : Str) : (x ++ y).length = x.length + y.length := by
  show (x.cps ++ y.cps).size = _
  rw [Array.size_append]
  rfl
theorem sum_le {α : Type} {f g : α → Nat} : ∀ {l : List α}, (∀ x ∈ l, f x ≤ g x) → (l.map f).sum ≤ (l.map g).sum
  | [], _ => Nat.le_refl _
  | x :: l, h => by
    rw [List.map_cons, List.map_cons, List.sum_cons, List.sum_cons]
    exact Nat.add_le_add (h x List.mem_cons_self) (sum_le fun y hy => h y (List.mem_cons_of_mem _ hy))
theorem sum_mul {α : Type} {f : α → Nat} (c : Nat) : ∀ l : List α, (l.map fun x => c * f x).sum = c * (l.map f).sum
  | [] => rfl
  | x :: l => by rw [List.map_cons, List.map_cons, List.sum_cons, List.sum_cons, sum_mul c l, Nat.mul_add]
theorem len_flatMap {α β : Type} {f : α → List β} : ∀ l : List α, (l.flatMap f).length = (l.map fun x => (f x).length).sum
  | [] => rfl
  | x :: l => by rw [List.flatMap_cons, List.length_append, List.map_cons, List.sum_cons, len_flatMap l]
theorem mode_len {m : Str} (h : m ∈ modes) : m.length = 4 := by
  have : ∀ m ∈ modes, m.length = 4 := by decide +kernel
  exact this m h
theorem kind_len {m : Str} (h : m ∈ kinds) : m.length = 1 := by
  have : ∀ m ∈ kinds, m.length = 1 := by decide +kernel
  exact this m h
theorem len_at : ∀ (n : Nat) (t : Tr n) (p q : List Str), (rows n p t).length = (rows n q t).length := by
  refine ind (fun n k p q => by rw [rows_bag, rows_bag]; rfl) (fun n m es ih p q => ?_)
  rw [rows_tab, rows_tab, List.length_cons, List.length_cons, len_flatMap, len_flatMap]
  congr 2
  exact List.map_congr_left fun e he => ih e he _ _
theorem text_len : ∀ (n : Nat) (t : Tr n), Ok n t → ∀ p, (text n t).length + 10 ≤ 27 * (rows n p t).length ∧ (form n t).length + 10 ≤ 27 * (rows n p t).length := by
  refine ind (fun n k h p => ?_) (fun n m es ih ho p => ?_)
  · rw [text_bag, form_bag, rows_bag, kind_len (by rw [← ok_bag (n := n)]; exact h)]
    have c0 : (Str.ofString "*").length = 1 := by decide +kernel
    rw [c0]
    exact ⟨(by decide : 1 + 10 ≤ 27 * 1), (by decide : 1 + 10 ≤ 27 * 1)⟩
  · obtain ⟨hm, ne, hd, hes⟩ := ho
    rw [text_tab, form_tab, rows_tab, List.length_cons, len_flatMap]
    have c1 : (Str.ofString ",").length = 1 := by decide +kernel
    have c2 : (Str.ofString ":").length = 1 := by decide +kernel
    have c3 : (Str.ofString "{").length = 1 := by decide +kernel
    have c4 : (Str.ofString "}").length = 1 := by decide +kernel
    have j1 := join_len "," (es.map fun e => e.1 ++ ":" ++ text n e.2)
    have j2 := join_len "," (es.map fun e => e.1 ++ ":" ++ form n e.2)
    rw [List.map_map] at j1 j2
    have s1 : (es.map ((fun x : Str => x.length + (Str.ofString ",").length) ∘ fun e => e.1 ++ ":" ++ text n e.2)).sum ≤ (es.map fun e => 27 * (rows n (p ++ [e.1]) e.2).length).sum := sum_le fun e he => by
      have a := (ih e he (hes e he).2 (p ++ [e.1])).1
      have b := key_len (hes e he).1
      show (e.1 ++ ":" ++ text n e.2).length + _ ≤ _
      rw [app_len, app_len, c1, c2]
      omega
    have s2 : (es.map ((fun x : Str => x.length + (Str.ofString ",").length) ∘ fun e => e.1 ++ ":" ++ form n e.2)).sum ≤ (es.map fun e => 27 * (rows n (p ++ [e.1]) e.2).length).sum := sum_le fun e he => by
      have a := (ih e he (hes e he).2 (p ++ [e.1])).2
      have b := key_len (hes e he).1
      show (e.1 ++ ":" ++ form n e.2).length + _ ≤ _
      rw [app_len, app_len, c1, c2]
      omega
    rw [sum_mul] at s1 s2
    rw [app_len, app_len, app_len, app_len, app_len, c3, c4, mode_len hm]
    constructor <;> omega
end Tr
end L2.G42

set_option Elab.async false
set_option linter.all false
set_option maxRecDepth 100000
set_option maxHeartbeats 4000000
namespace L2.G42
open PySem PySem.Spec
/-- marks in the heap: those of a tree -/
structure MkAt (H : Hp) (D : Addr) (n : Nat) (t : Tr n) : Prop where
  at_ : H D = some (.dT (kmk (Tr.marks n [] t)))
  ok : Tr.Ok n t
  few : (Tr.rows n [] t).length ≤ 1000
  lv : n ≤ 10
theorem MkAt.grow {H H' : Hp} {D : Addr} {n : Nat} {t : Tr n} (h : MkAt H D n t) (g : But (fun _ => False) H H') : MkAt H' D n t := ⟨g _ _ h.at_ id, h.ok, h.few, h.lv⟩
theorem MkAt.so {H : Hp} {D : Addr} {n : Nat} {t : Tr n} (h : MkAt H D n t) : SoMs (Tr.marks n [] t) := Tr.so_marks n t h.ok [] (fun x hx => by cases hx)
/-- the text of an item, or its form -/
def shw (b : Bool) (n : Nat) (t : Tr n) : Str := if b = true then Tr.text n t else Tr.form n t
theorem shw_tab {b : Bool} {n : Nat} {m : Str} {es : List (Str × Tr n)} : shw b (n + 1) (Tr.tab m es) = (if b = true then m else "") ++ "{" ++ Txt.join "," (es.map fun e => e.1 ++ ":" ++ shw b n e.2) ++ "}" := by
  cases b with
  | true => rfl
  | false =>
    show Tr.form (n + 1) (Tr.tab m es) = _
    rw [Tr.form_tab]
    have : ∀ x : Str, Str.ofString "" ++ x = x := fun x => by
      apply str_ext
      show ((Str.ofString "").cps ++ x.cps).toList = _
      have e : (Str.ofString "").cps = #[] := by decide +kernel
      rw [e]
      simp
    show _ = Str.ofString "" ++ Str.ofString "{" ++ _ ++ _
    rw [this]
    rfl
theorem shw_len {b : Bool} {n : Nat} {t : Tr n} (h : Tr.Ok n t) (p : List Str) : (shw b n t).length + 10 ≤ 27 * (Tr.rows n p t).length := by
  cases b
  · exact (Tr.text_len n t h p).2
  · exact (Tr.text_len n t h p).1
theorem parts_len {b : Bool} {n : Nat} {m : Str} {es : List (Str × Tr n)} (ho : Tr.Ok (n + 1) (Tr.tab m es)) (p : List Str) : ((es.map fun e => e.1 ++ ":" ++ shw b n e.2).map (·.length)).sum ≤ 27 * (Tr.rows (n + 1) p (Tr.tab m es)).length := by
  rw [List.map_map, Tr.rows_tab, List.length_cons, Tr.len_flatMap]
  have c2 : (Str.ofString ":").length = 1 := by decide +kernel
  have s1 : (es.map ((fun x : Str => x.length) ∘ fun e => e.1 ++ ":" ++ shw b n e.2)).sum ≤ (es.map fun e => 27 * (Tr.rows n (p ++ [e.1]) e.2).length).sum := Tr.sum_le fun e he => by
    have a := shw_len (b := b) (ho.2.2.2 e he).2 (p ++ [e.1])
    have b := key_len (ho.2.2.2 e he).1
    show (e.1 ++ ":" ++ shw _ n e.2).length ≤ _
    rw [Tr.app_len, Tr.app_len, c2]
    omega
  rw [Tr.sum_mul] at s1
  omega
/-- the text of the item at a place; at most n levels -/
def spWr (K : PySem.W.Frag) (n : Nat) : Sp := fun vs H Q _ => ∃ (D pl : Addr) (b : Bool) (N : Nat) (t : Tr N) (r : Row), vs = [.ref D, .ref pl, .bl b] ∧ MkAt H D N t ∧ r ∈ Tr.rows N [] t ∧ r.k ≤ n ∧ SqT K H pl (r.pl.map V.str) ∧
  ∀ H' : Hp, But (fun _ => False) H H' → Q (.str (shw b r.k r.t)) H'
def spKu (K : PySem.W.Frag) : Sp := fun vs H Q _ => ∃ (D pl : Addr) (ms : List (List Str × Str)) (p : List Str), vs = [.ref D, .ref pl] ∧ H D = some (.dT (kmk ms)) ∧ SqT K H pl (p.map V.str) ∧ SoMs ms ∧ SoAll p ∧ ms.length ≤ 1000 ∧
  ∀ (q : Addr) (H' : Hp), H q = none → H' q = some (.tup ((ku ms p).map V.str)) → But (fun _ => False) H H' → Q (.ref q) H'
theorem row_so {H : Hp} {D : Addr} {n : Nat} {t : Tr n} (h : MkAt H D n t) {r : Row} (hr : r ∈ Tr.rows n [] t) : SoAll r.pl := by
  have : (r.pl, Tr.mark r.k r.t) ∈ Tr.marks n [] t := by rw [Tr.marks_rows]; exact List.mem_map.mpr ⟨r, hr, rfl⟩
  exact h.so _ this
/-- a row is a bag's or a table's -/
theorem row_cases (r : Row) : (∃ k, r.t = .inl k) ∨ ∃ (n : Nat) (m : Str) (es : List (Str × Tr n)), r = ⟨r.pl, n + 1, Tr.tab m es⟩ := by
  obtain ⟨pl, k, t⟩ := r
  cases t with
  | inl k => exact .inl ⟨k, rfl⟩
  | inr x =>
    cases k with
    | zero => cases x
    | succ n => exact .inr ⟨n, x.1, x.2, rfl⟩
theorem Tr.rows_lev : ∀ (n : Nat) (t : Tr n) (p : List Str), ∀ r ∈ rows n p t, r.pl.length + r.k = p.length + n := by
  refine ind (fun n k p r hr => ?_) (fun n m es ih p r hr => ?_)
  · rw [rows_bag] at hr
    rw [List.mem_singleton.mp hr]
  · rw [rows_tab] at hr
    rcases List.mem_cons.mp hr with e1 | hr
    · rw [e1]
    · obtain ⟨y, hy, hr⟩ := List.mem_flatMap.mp hr
      have := ih y hy _ r hr
      rw [List.length_append, List.length_singleton] at this
      omega
theorem Tr.rows_pos : ∀ (n : Nat) (t : Tr n) (p : List Str), 1 ≤ (rows n p t).length := by
  refine ind (fun n k p => ?_) (fun n m es _ p => ?_)
  · rw [rows_bag]; exact Nat.le_refl _
  · rw [rows_tab, List.length_cons]; omega
theorem Tr.es_len {n : Nat} {m : Str} {es : List (Str × Tr n)} {p : List Str} : es.length + 1 ≤ (rows (n + 1) p (tab m es)).length := by
  rw [rows_tab, List.length_cons, len_flatMap]
  have h : (es.map fun _ => 1).sum ≤ (es.map fun e => (rows n (p ++ [e.1]) e.2).length).sum := sum_le fun e _ => rows_pos n e.2 _
  have : ∀ l : List (Str × Tr n), (l.map fun _ => 1).sum = l.length := fun l => by
    induction l with
    | nil => rfl
    | cons x l ih => rw [List.map_cons, List.sum_cons, ih, List.length_cons]; omega
  rw [this] at h
  omega
/-- place + (key,) -/
theorem cat_place {K : PySem.W.Frag} {H : Hp} {a b : Addr} {p : List Str} {key : Str} {Q : VK} (ha : SqT K H a (p.map V.str)) (hb : H b = some (.tup [V.str key])) (hl : p.length ≤ 1000) (k : ∀ c H', But (fun _ => False) H H' → H' c = some (.tup ((p ++ [key]).map V.str)) → Q (.ref c) H') : rCatA K (.ref a) (.ref b) H Q := by
  refine ⟨a, b, _, _, rfl, rfl, ha, .inl (.inl hb), szle (by rw [List.length_map]; simp; omega), fun e => k b H But.refl ?_, fun _ e => (nomatch e), fun _ _ c hc => k c _ (But.new hc) ?_⟩
  · have : p = [] := List.map_eq_nil_iff.mp e
    subst this
    exact hb
  · rw [upd_same, List.map_append, List.map_singleton]
end L2.G42

set_option Elab.async false
set_option linter.all false
set_option maxRecDepth 100000
set_option maxHeartbeats 4000000
namespace L2.G42
open PySem PySem.Spec PyProof.Rows
theorem dcT_it {J : It} {n : Nat} {G : Hp → Prop} {Y : Nat → Hp → V → Hp → Prop} (wk : Walk J n G Y) {g : TG} {tt : TT} {tk tv : TE} {vs : List Nat} {σ : St} {H1 : Hp} {N : Addr} {Qd : Hp → Prop} (Pv : Nat → Hp → Prop) (h0 : Pv 0 (upd H1 N (.dT []))) (hG : ∀ i H, i ≤ n → Pv i H → G H)
    (hs : ∀ i x H H', i < n → Pv i H → Y i H x H' → g x (wipe σ vs) H' fun σ2 H2 => wipe σ2 vs = wipe σ vs ∧ tt σ2 H2 fun b H3 =>
      if b = true then tk σ2 H3 fun y H4 => tv σ2 H4 fun z H5 => ∃ c kvs k, y = .ref c ∧ H5 c = some (.tup (k.map kV)) ∧ H5 N = some (.dT kvs) ∧ kvs.length < sizeLine ∧ Pv (i + 1) (upd H5 N (.dT (putK kvs k z))) else Pv (i + 1) H3) (hd : ∀ H, Pv n H → Qd H) :
    ∃ V : Nat → Nat → Hp → Prop, (∃ m, V 0 m (upd H1 N (.dT []))) ∧ ∀ i m H, V i m H →
      (J.stop i H ∧ Qd H) ∨ (J.go i H ∧ ∃ Z : Hp → Prop, (∀ H', Z H' → ∃ m', m' < m ∧ V (i + 1) m' H') ∧ ∀ x H', J.yld i H x H' → g x (wipe σ vs) H' fun σ2 H2 => wipe σ2 vs = wipe σ vs ∧ tt σ2 H2 fun b H3 =>
        if b = true then tk σ2 H3 fun y H4 => tv σ2 H4 fun z H5 => ∃ c kvs k, y = .ref c ∧ H5 c = some (.tup (k.map kV)) ∧ H5 N = some (.dT kvs) ∧ kvs.length < sizeLine ∧ Z (upd H5 N (.dT (putK kvs k z))) else Z H3) := by
  refine ⟨fun i m H => m = n - i ∧ i ≤ n ∧ Pv i H, ⟨n, rfl, Nat.zero_le _, h0⟩, ?_⟩
  rintro i m H ⟨rfl, hi, p⟩
  have q := hG i H hi p
  rcases Nat.lt_or_ge i n with lt | ge
  · exact .inr ⟨wk.goes i H lt q, Pv (i + 1), fun H' p' => ⟨n - (i + 1), by omega, rfl, lt, p'⟩, fun x H' y => hs i x H H' lt p (wk.yields i H x H' lt q y)⟩
  · obtain rfl : i = n := Nat.le_antisymm hi ge
    exact .inl ⟨wk.stops H q, hd H p⟩
theorem keys_zip {H : Hp} : ∀ {ms : List (List Str × Str)} {bs : List Addr}, IsKeys H (kmk ms) bs → bs.length = ms.length ∧ ∀ e ∈ bs.zip ms, H e.1 = some (.tup (e.2.1.map V.str))
  | [], [], _ => ⟨rfl, fun e he => by cases he⟩
  | [], _ :: _, h => by cases h
  | _ :: _, [], h => by cases h
  | q :: ms, b :: bs, h => by
    cases h with
    | cons h1 h2 =>
      obtain ⟨l, k⟩ := keys_zip (ms := ms) (bs := bs) h2
      refine ⟨by rw [List.length_cons, List.length_cons, l], fun e he => ?_⟩
      rcases List.mem_cons.mp he with e1 | he
      · rw [e1]
        have h1' : H b = some (.tup ((kp q.1).map kV)) := h1
        rw [kV_kp] at h1'
        exact h1'
      · exact k e he
theorem zip_fst {α β : Type} : ∀ {as : List α} {bs : List β}, as.length = bs.length → (as.zip bs).map Prod.fst = as
  | [], [], _ => rfl
  | [], _ :: _, h => by cases h
  | _ :: _, [], h => by cases h
  | a :: as, b :: bs, h => by
    rw [List.zip_cons_cons, List.map_cons, zip_fst (by simpa using h)]
theorem zip_snd {α β : Type} : ∀ {as : List α} {bs : List β}, as.length = bs.length → (as.zip bs).map Prod.snd = bs
  | [], [], _ => rfl
  | [], _ :: _, h => by cases h
  | _ :: _, [], h => by cases h
  | a :: as, b :: bs, h => by
    rw [List.zip_cons_cons, List.map_cons, zip_snd (by simpa using h)]
/-- the class Book -/
structure BkT (K : PySem.W.Frag) (BK : Addr) : Prop where
  cl : Cls K BK
  nM : NoAttr K BK "marks"
/-- Book.__init__ -/
def spBInit (BK : Addr) : Sp := fun vs H Q _ => ∃ (b dx D0 : Addr) (ms : List (List Str × Str)), vs = [.ref b, .ref D0] ∧ H b = some (.ins BK dx []) ∧ H D0 = some (.dT (kmk ms)) ∧ DiffBy (·.1) ms ∧ ms.length ≤ 1000 ∧ (∃ q r, ms = q :: r ∧ q.1 = []) ∧
  ∀ (D : Addr) (H' : Hp), H D = none → H' b = some (.ins BK dx [("marks", .ref D)]) → H' D = some (.dT (kmk (srtBy lexS (·.1) ms))) → But (· = b) H H' → Q .non H'
end L2.G42

set_option Elab.async false
set_option linter.all false
set_option maxRecDepth 100000
set_option maxHeartbeats 4000000
namespace L2.G42
open PySem PySem.Spec PyProof.Rows
open _root_.ClX (CRead CVal CMet)
/-- a classmethod that may raise -/
structure CmX (P : Program) (w : World) (K : PySem.W.Frag) (mg : Str → Option Value) (base : Heap) (k : Nat) (C : Addr) (mc : Value) (m : Str) (sp : Sp) : Prop where
  ex : ∃ (p f : Addr) (fd : FuncData) (ps : List Str), CRead K C mc ∧ CMet K C mc m p f ∧ FnOk P w K mg base (L2.CX P w) k f fd ps sp ∧ Binds K fd ps []
/-- the class at C, made by a value that is it -/
structure NwV (P : Program) (w : World) (K : PySem.W.Frag) (mg : Str → Option Value) (base : Heap) (k : Nat) (C : Addr) (sp : Sp) (dvs : List V) : Prop where
  ex : ∃ (f : Addr) (fd : FuncData) (ps : List Str) (ds : List Value), Mk K C f ∧ FnOk P w K mg base CX0 k f fd ps sp ∧ Binds K fd ps ds ∧ Vals dvs ds
section
variable {X : Cx} {k j i : Nat} {C : Addr} {mc : Value} {x m : Str} {sp : Sp} {p pos apos : Pos} {e o : Expr} {es : List Expr} {ta : TE} {t : TA} {W : WX}
theorem run_cE {CX : CXT} {E : St → XK} {f : Addr} {fd : FuncData} {ps : List Str} {pins : List (Addr × Obj)} {σ : St} {H : Hp} {s : Shared} {Q : VK} {us : List Value} {vs : List V} (F : FnOk X.prog X.w X.K X.mg X.base CX k f fd ps sp) (hr : Room k X.A) (hb : Binds X.K fd ps []) (hx : PassesAt CX X σ (E σ))
    (I : Inv X pins σ H s) (r : Vals vs us) (h : sp vs H Q (E σ)) : codeAny (model X.prog X.w) X.A (.call (.ref f) ⟨us, []⟩) (fun r s' => match r with | .ok (.ret v) => EP X pins σ Q v s' | .ok _ => False | .error e => X.xe e s') s := by
  have hl : us.length = ps.length := r.length.symm.trans (F.len _ _ _ _ h)
  refine codeAny_mono (F.run X.A X.stack s H ⟨us, []⟩ us vs Q (E σ) hr I.env0 (by have := hb s us I.kIn (by simpa using hl); simpa using this) r h) fun r s' hq => ?_
  cases r with
  | error e => exact hx pins H s e s' I hq
  | ok fl =>
    cases fl with
    | ret u => exact I.after hq
    | next => exact False.elim hq
    | brk => exact False.elim hq
    | cont => exact False.elim hq
def tCmS (C : Addr) (sp : Sp) (E : St → XK) (ta : TE) (t : TA) : TE := fun σ H Q => ta σ H fun x H1 => x = .ref C ∧ t σ H1 fun vs H2 => sp (.ref C :: vs) H2 Q (E σ)
theorem pe_cmS {pl : Sem Bool} (c : CmX X.prog X.w X.K X.mg X.base k C mc m sp) (tk : Takes X W) (hr : Room j X.A) (hk : k ≤ j) (he : PE X o ta) (ha : PA X (e :: es) t)
    (hst : starEach (e :: es) X.env = (false, eval e X.env) :: starEach es X.env := by rfl) (hpl : (backTo pos (starEach es X.env)).any (·.1) = false := by rfl)
    (ht : eval (.Call (.Attribute o m apos) (e :: es) [] pos) X.env = (eval o X.env >>= fun ov => standAt apos.atName >>= fun _ => holding [ov] (getMethod ov m pl) >>= fun q => callWith pos q.1 q.2 (backTo pos (starEach (e :: es) X.env)) (backToKw pos (keywordEach [] X.env))) := by rfl) :
    PE X (.Call (.Attribute o m apos) (e :: es) [] pos) (tCmS C sp (WE W) ta t) := by
  obtain ⟨pa, f, fd, ps, rd, cm, F, hb⟩ := c.ex
  refine ⟨fun pins s σ H Q I h => ?_⟩
  refine PySem.W.methodCall_KW (pl := pl) (thn (he.run pins s σ H _ I h) fun u s1 ⟨y, H1, I1, rx, ey, q⟩ => ?_) ht
  subst ey
  obtain rfl : u = Value.ref C := rx
  refine _root_.ClX.getmethcm_ok I1 rd cm fun s2 I2 => ?_
  refine _root_.ClX.callwith_cm I2 (_root_.ClX.base_none I1 (Nat.le_refl _)) cm.fi (thn (ha.run pos _ s2 σ H1 _ I2 q) fun us s3 ⟨vs, H2, I3, rv, q2⟩ => ⟨⟨_root_.ClX.pin_at I3, I3.kIn⟩, ?_⟩) hst hpl
  have z : wpAny (model X.prog X.w) X.A (call (.ref s1.heap.objs.size) us) (EP X ((s1.heap.objs.size, PySem.W.methodObj (.ref f) (.ref C)) :: pins) σ Q) X.xe s3 :=
    wpAny_call (PySem.W.method_call (_root_.ClX.pin_at I3) (run_cE (E := WE W) (us := .ref C :: us) (vs := .ref C :: vs) F (hr.mono hk) hb (passAt tk σ) I3 (.cons rfl rv) q2))
  exact thn z fun _ _ y => _root_.ClX.unpinE y
theorem pe_cm0 {pl : Sem Bool} (c : CmX X.prog X.w X.K X.mg X.base k C mc m sp) (hr : Room j X.A) (hk : k ≤ j) (he : PE X o ta) (ha : PA X (e :: es) t)
    (hst : starEach (e :: es) X.env = (false, eval e X.env) :: starEach es X.env := by rfl) (hpl : (backTo pos (starEach es X.env)).any (·.1) = false := by rfl)
    (ht : eval (.Call (.Attribute o m apos) (e :: es) [] pos) X.env = (eval o X.env >>= fun ov => standAt apos.atName >>= fun _ => holding [ov] (getMethod ov m pl) >>= fun q => callWith pos q.1 q.2 (backTo pos (starEach (e :: es) X.env)) (backToKw pos (keywordEach [] X.env))) := by rfl) :
    PE X (.Call (.Attribute o m apos) (e :: es) [] pos) (tCmS C sp (fun _ => E0) ta t) := by
  obtain ⟨pa, f, fd, ps, rd, cm, F, hb⟩ := c.ex
  refine ⟨fun pins s σ H Q I h => ?_⟩
  refine PySem.W.methodCall_KW (pl := pl) (thn (he.run pins s σ H _ I h) fun u s1 ⟨y, H1, I1, rx, ey, q⟩ => ?_) ht
  subst ey
  obtain rfl : u = Value.ref C := rx
  refine _root_.ClX.getmethcm_ok I1 rd cm fun s2 I2 => ?_
  refine _root_.ClX.callwith_cm I2 (_root_.ClX.base_none I1 (Nat.le_refl _)) cm.fi (thn (ha.run pos _ s2 σ H1 _ I2 q) fun us s3 ⟨vs, H2, I3, rv, q2⟩ => ⟨⟨_root_.ClX.pin_at I3, I3.kIn⟩, ?_⟩) hst hpl
  have z : wpAny (model X.prog X.w) X.A (call (.ref s1.heap.objs.size) us) (EP X ((s1.heap.objs.size, PySem.W.methodObj (.ref f) (.ref C)) :: pins) σ Q) X.xe s3 :=
    wpAny_call (PySem.W.method_call (_root_.ClX.pin_at I3) (run_cE (E := fun _ => E0) (us := .ref C :: us) (vs := .ref C :: vs) F (hr.mono hk) hb (fun pins H s e s' I h => passL pins σ H s e s' I h) I3 (.cons rfl rv) q2))
  exact thn z fun _ _ y => _root_.ClX.unpinE y
/-- c(..), c a local that holds the class -/
def tMakeV (i : Nat) (C : Addr) (sp : Sp) (dvs : List V) (t : TA) : TE := fun σ H Q => σ[i]? = some (some (.ref C)) ∧ tMake C sp dvs E0 t σ H Q
theorem pe_mkV {dvs : List V} (c : NwV X.prog X.w X.K X.mg X.base k C sp dvs) (hr : Room j X.A) (hk : k + 1 ≤ j) (hN : X.N[i]? = some x) (hv : Vis X.env.scope x) (ha : PA X (e :: es) t) (hdb : (x == ("__debug__" : Str)) = false := by decide) (hcd : (x == ("__classdict__" : Str)) = false := by decide)
    (he : starEach (e :: es) X.env = (false, eval e X.env) :: starEach es X.env := by rfl) (hpl : (backTo pos (starEach es X.env)).any (·.1) = false := by rfl) : PE X (.Call (.Name x p) (e :: es) [] pos) (tMakeV i C sp dvs t) := by
  obtain ⟨f, fd, ps, ds, M, F, hb, hd⟩ := c.ex
  refine ⟨fun pins s σ H Q I h => ?_⟩
  obtain ⟨hs, ht⟩ := h
  refine wpAny_Call_Name_kw (thn ((pe_var (pos := p) hN hv hdb hcd).run pins s σ H (fun v H1 => v = .ref C ∧ H1 = H) I ⟨.ref C, hs, rfl, rfl⟩) fun u s1 ⟨v, H1, I1, r1, q1⟩ => ?_)
  obtain ⟨rfl, rfl⟩ := q1
  cases r1
  refine PySem.W.callWith_K (h₀ := X.base) I.ok.mod.kin M.kp (thn (ha.run pos pins s1 σ _ _ I1 ht) fun us s2 ⟨vs, H2, I2, r, q1⟩ => ⟨I2.kIn, ?_⟩) he hpl
  have hq := q1 (s2.heap.objs.size + 1) s2.heap.objs.size (I2.hok.fresh (Nat.le_succ _)) (I2.hok.fresh (Nat.le_refl _)) (Nat.ne_of_lt (Nat.lt_succ_self _))
  have I3 := Inv.made (C := C) I2
  have r2 : Vals (V.ref (s2.heap.objs.size + 1) :: (vs ++ dvs)) (Value.ref (s2.heap.objs.size + 1) :: (us ++ ds)) := .cons rfl (r.append hd)
  have hl : (Value.ref (s2.heap.objs.size + 1) :: us ++ ds).length = ps.length := r2.length.symm.trans (F.len _ _ _ _ hq)
  refine wpAny_call (make_map (f := f) I2.kIn M.makes M.init (beq_iff_eq.mp M.fn) (codeAny_mono (F.run _ X.stack _ _ ⟨Value.ref (s2.heap.objs.size + 1) :: us, []⟩ (Value.ref (s2.heap.objs.size + 1) :: (us ++ ds)) _ _ E0 ((hr.mono hk).make C us [])
    (I3.env0.make C us []) (hb _ (Value.ref (s2.heap.objs.size + 1) :: us) I3.kIn hl) r2 hq) fun r s' hq' => ?_))
  match r, hq' with
  | .error er, hq' => exact hq'.elim
  | .ok .next, hq' => exact hq'.elim
  | .ok .brk, hq' => exact hq'.elim
  | .ok .cont, hq' => exact hq'.elim
  | .ok (.ret u), hq' =>
    obtain ⟨v, H', I4, rv, rfl, q3⟩ := I3.after hq'
    exact ⟨rv, ⟨V.ref (s2.heap.objs.size + 1), H', I4, rfl, q3⟩⟩
end
end L2.G42

set_option Elab.async false
set_option linter.all false
set_option maxRecDepth 100000
set_option maxHeartbeats 4000000
namespace L2.G42
open PySem PySem.Spec
/-- a book in the heap -/
structure BkAt (BK : Addr) (H : Hp) (b D : Addr) (ms : List (List Str × Str)) : Prop where
  ob : ∃ dx, H b = some (.ins BK dx [("marks", .ref D)])
  ma : H D = some (.dT (kmk ms))
theorem BkAt.grow {BK : Addr} {H H' : Hp} {b D : Addr} {ms : List (List Str × Str)} (h : BkAt BK H b D ms) (g : But (fun _ => False) H H') : BkAt BK H' b D ms := let ⟨dx, e⟩ := h.ob; ⟨⟨dx, g _ _ e id⟩, g _ _ h.ma id⟩
/-- what a book may be made of -/
structure MsOk (ms : List (List Str × Str)) : Prop where
  df : DiffBy (·.1) ms
  few : ms.length ≤ 1000
  hd : ∃ q r, ms = q :: r ∧ q.1 = []
/-- Book.read -/
def spRead (K : PySem.W.Frag) (BK B : Addr) : Sp := fun vs H Q E => ∃ (x : V) (d : PyData), vs = [.ref BK, x] ∧ Dp K H x d ∧ ((isStr d = false ∧ ∀ (e : Addr) (H' : Hp), H e = none → H' e = some (.xd [("at", .int (-1))]) → But (fun _ => False) H H' → E (.ref B) (some e) H') ∨
  ∃ z : Str, d = .str z ∧ z.length ≤ 90000 ∧ (∀ p, rdWhole (rdStart z) = .error p → ∀ (e : Addr) (H' : Hp), H e = none → H' e = some (.xd [("at", .int (p : Nat))]) → But (fun _ => False) H H' → E (.ref B) (some e) H') ∧
    ∀ s2, rdWhole (rdStart z) = .ok s2 → ∃ ms, s2.marks = kmk ms ∧ MsOk ms ∧ ∀ (b D : Addr) (H' : Hp), H b = none → H D = none → BkAt BK H' b D (srtBy lexS (·.1) ms) → But (fun _ => False) H H' → Q (.ref b) H')
def spRW (R B : Addr) : Sp := fun vs H Q E => ∃ (r F D : Addr) (s : Rd), vs = [.ref r] ∧ RdAt R H r F D s ∧ s.Ok ∧ RdEnd R B r F D (rdWhole s) H Q E
theorem tw_le (p : Nat → Bool) : ∀ l : List Nat, (l.takeWhile p).length ≤ l.length
  | [] => Nat.le_refl _
  | c :: l => by
    rw [List.takeWhile_cons]
    split
    · exact Nat.succ_le_succ (tw_le p l)
    · exact Nat.zero_le _
theorem toks_le : ∀ (k : Nat) (l : List Nat), l.length ≤ k → ∀ n, ∀ t ∈ toks n l, t.2.length ≤ l.length
  | _, [], _, n, t, ht => by rw [toks] at ht; cases ht
  | 0, c :: r, h, _, _, _ => by simp at h
  | k + 1, c :: r, h, n, t, ht => by
    rw [List.length_cons] at h
    rw [toks] at ht
    split at ht
    · have h1 := tw_le letter r
      have h2 := dw_le letter r
      rcases List.mem_cons.mp ht with e | ht
      · rw [e]
        exact Nat.succ_le_succ h1
      · have := toks_le k _ (by omega) _ t ht
        rw [List.length_cons]
        omega
    · split at ht
      · have := toks_le k r (by omega) _ t ht
        rw [List.length_cons]
        omega
      · rcases List.mem_cons.mp ht with e | ht
        · rw [e]
          simp
        · have := toks_le k r (by omega) _ t ht
          rw [List.length_cons]
          omega
theorem start_ok {z : Str} (h : z.length ≤ 90000) : (rdStart z).Ok := by
  refine ⟨Nat.zero_le _, Nat.zero_le _, Nat.zero_le _, fun t ht => ?_⟩
  have := toks_le _ _ (Nat.le_refl _) 0 t ht
  have e : z.cps.toList.length = z.length := by
    show _ = z.cps.size
    simp
  omega
end L2.G42

set_option Elab.async false
set_option linter.all false
set_option maxRecDepth 100000
set_option maxHeartbeats 4000000
namespace L2.G42
open PySem PySem.Spec PyProof.Rows
/-! dicts with tuple keys, the key any tuple that stands still -/
section
variable {X : Cx} {K : PySem.W.Frag} {o i : Expr} {td ty : TE} {pos : Pos}
theorem key_sq {pins : List (Addr × Obj)} {σ : St} {H : Hp} {s : Shared} {b : Addr} {k : List Key} (I : Inv X pins σ H s) (h : SqT X.K H b (k.map kV)) : (tupleKind (mixKind X.prog X.w)).is s.heap k b := by
  obtain ⟨its, r, pl, _⟩ := I.tuple h
  obtain ⟨o, ho, hc, n, hd⟩ := pl
  exact ⟨o, its.toArray, n, ho, hc, hd, by simpa using items_are r⟩
def tDgT (K : PySem.W.Frag) (td ty : TE) : TE := fun σ H Q => td σ H fun x H1 => ty σ H1 fun y H2 => ∃ a b kvs k v, x = .ref a ∧ y = .ref b ∧ L2.Rd H2 a (.dT kvs) ∧ SqT K H2 b (k.map kV) ∧ valV kvs k = some v ∧ Q v H2
def tDiT (K : PySem.W.Frag) (neg : Bool) (ty td : TE) : TE := fun σ H Q => ty σ H fun y H1 => td σ H1 fun x H2 => ∃ a b kvs k, x = .ref a ∧ y = .ref b ∧ L2.Rd H2 a (.dT kvs) ∧ SqT K H2 b (k.map kV) ∧ Q (.bl (if neg = true then !(valV kvs k).isSome else (valV kvs k).isSome)) H2
theorem pe_dgT (hK : X.K = K) (hu : X.A.units + 1 < cLine) (ho : PE X o td) (hi : PE X i ty) (hs : NoSl i) : PE X (.Subscript o i pos) (tDgT K td ty) := by
  subst hK
  refine ⟨fun pins s σ H Q I h => ?_⟩
  refine subD_of PySem.F.slot_dict_getitem.lookup hs (thn (ho.run pins s σ H _ I h) fun u s1 ⟨x, H1, I1, rx, q1⟩ => thn (hi.run pins s1 σ H1 _ I1 q1) fun iv s2 ⟨y, H2, I2, ry, a, b, kvs, k, v, ex, ey, e, eb, l, q2⟩ => ?_)
  subst ex
  subst ey
  obtain rfl : u = Value.ref a := rx
  obtain rfl : iv = Value.ref b := ry
  obtain ⟨z, hd, xs, rel, dd⟩ := dt_rd I2.hok e
  refine ⟨dd.typeIs, ?_⟩
  obtain ⟨w', hw, rw'⟩ := RelO.some_of (v := v) (o := (atKey xs k).map (·.2)) (by rw [← l]; exact rel.val k)
  obtain ⟨p, hp, hp2⟩ := Option.map_eq_some_iff.mp hw
  refine wpAny_getItem_heap (tupleKind_room_in1 hu) (key_sq I2 eb) dd hp ?_
  rw [hp2]
  exact ⟨v, H2, I2.tok _, rw', q2⟩
theorem pc_dinT (hK : X.K = K) (hu : X.A.units + 1 < cLine) (hi : PE X i ty) (ho : PE X o td) : PC X .In i o (tDiT K false ty td) := by
  subst hK
  refine ⟨fun pins s σ H Q I h => ?_⟩
  refine thn (hi.run pins s σ H _ I h) fun iv s1 ⟨y, H1, I1, ry, q1⟩ => thn (ho.run pins s1 σ H1 _ I1 q1) fun u s2 ⟨x, H2, I2, rx, a, b, kvs, k, ex, ey, e, eb, q2⟩ => ?_
  subst ex
  subst ey
  obtain rfl : u = Value.ref a := rx
  obtain rfl : iv = Value.ref b := ry
  obtain ⟨z, hd, xs, rel, dd⟩ := dt_rd I2.hok e
  refine wpAny_in_heap (tupleKind_room_in1 hu) (key_sq I2 eb) hd dd ?_
  have q := (rel.val k).isSome_eq
  rw [Option.isSome_map] at q
  rw [← q]
  exact ⟨.bl _, H2, I2.tok _, rfl, q2⟩
theorem pc_dninT (hK : X.K = K) (hu : X.A.units + 1 < cLine) (hi : PE X i ty) (ho : PE X o td) : PC X .NotIn i o (tDiT K true ty td) := by
  subst hK
  refine ⟨fun pins s σ H Q I h => ?_⟩
  refine thn (hi.run pins s σ H _ I h) fun iv s1 ⟨y, H1, I1, ry, q1⟩ => thn (ho.run pins s1 σ H1 _ I1 q1) fun u s2 ⟨x, H2, I2, rx, a, b, kvs, k, ex, ey, e, eb, q2⟩ => ?_
  subst ex
  subst ey
  obtain rfl : u = Value.ref a := rx
  obtain rfl : iv = Value.ref b := ry
  obtain ⟨z, hd, xs, rel, dd⟩ := dt_rd I2.hok e
  refine wpAny_notIn_heap (tupleKind_room_in1 hu) (key_sq I2 eb) hd dd ?_
  have q := (rel.val k).isSome_eq
  rw [Option.isSome_map] at q
  rw [← q]
  exact ⟨.bl _, H2, I2.tok _, rfl, q2⟩
end
theorem SqT.but {K : PySem.W.Frag} {S : Addr → Prop} {H H' : Hp} {a : Addr} {xs : List V} (h : SqT K H a xs) (b : But S H H') (n : ¬ S a) : SqT K H' a xs := by
  rcases h with (h | ⟨o, h⟩) | h
  · exact .inl (.inl (b _ _ h n))
  · exact .inl (.inr ⟨o, b _ _ h n⟩)
  · exact .inr h
theorem SqT.grow {K : PySem.W.Frag} {H H' : Hp} {a : Addr} {xs : List V} (h : SqT K H a xs) (b : But (fun _ => False) H H') : SqT K H' a xs := SqT.but h b id
/-- what is a tuple is no dict -/
theorem SqT.butD {K : PySem.W.Frag} {H H' : Hp} {a D : Addr} {xs : List V} {kvs : List (List Key × V)} (h : SqT K H a xs) (hD : H D = some (.dT kvs)) (b : But (· = D) H H') : SqT K H' a xs := by
  rcases h with (h | ⟨o, h⟩) | h
  · exact .inl (.inl (b _ _ h fun e => by rw [e, hD] at h; cases h))
  · exact .inl (.inr ⟨o, b _ _ h fun e => by rw [e, hD] at h; cases h⟩)
  · exact .inr h
theorem rd_frz {H : Hp} {a : Addr} {o : Obj} {u : HO} (h : H a = some (.frz o u)) : L2.Rd H a u := .inr ⟨o, h⟩
end L2.G42

set_option Elab.async false
set_option linter.all false
set_option maxRecDepth 100000
set_option maxHeartbeats 4000000
namespace L2.G42
open PySem PySem.Spec PyProof.Rows
section
variable {X : Cx} {CX : CXT} {n k j : Nat} {C f : Addr} {fd : FuncData} {ps : List Str} {sp : Sp} {E : XK}
theorem op_ninI (F : FnOk X.prog X.w X.K X.mg X.base CX n f fd ps sp) (hs : PySem.W.findIn X.K (.ref C) "__contains__" = some (some (.ref f))) (hf : PySem.W.isFn X.K (.ref f) = true) (hb : Binds X.K fd ps []) (hr : Room n X.A) (hx : Passes CX X E) :
    OpR X (compareOp .NotIn) (rInI C sp E true) := by
  intro pins s σ H x y u v Q I rx ry h
  obtain ⟨a, dx, fs, rfl, ha, hsp⟩ := h
  cases ry
  obtain ⟨mA, J, _⟩ := ins_get I.hok ha
  obtain ⟨od, J, _⟩ := J.look
  obtain ⟨m, hF⟩ := I.fr
  refine PySem.W.notIn_K hF I.ok.mod.kin J hs hf (wpAny_mono (own_call F hb hr hx I (x := .ref a) (y := x) rfl rx hsp) (fun r s' q => ?_) fun _ _ e => e)
  cases r <;> first | exact q.elim | skip
  all_goals obtain ⟨z, H', I', rz, b, rfl, q⟩ := q
  all_goals cases rz
  exact wpAny_truthy_bool ⟨.bl _, H', I', rfl, q⟩
theorem op_ninO (c : Own1 X.prog X.w X.K X.mg X.base k C "__contains__" sp) (hr : Room j X.A) (hk : k ≤ j) : OpR X (compareOp .NotIn) (rInI C sp E0 true) :=
  let ⟨_, _, _, F, h1, h2, h3⟩ := c.ex
  op_ninI F h1 h2 h3 (hr.mono hk) pass0
theorem cr_strO (c : Own1 X.prog X.w X.K X.mg X.base k C "__str__" sp) (hr : Room j X.A) (hk : k + 2 ≤ j) : CallR X (.type "str") (rShowO C sp E0) :=
  let ⟨_, _, _, F, h1, h2, h3⟩ := c.ex
  call_strO F h1 h2 h3 (hr.mono hk) pass0
theorem cr_reprO (c : Own1 X.prog X.w X.K X.mg X.base k C "__repr__" sp) (hr : Room j X.A) (hk : k + 1 ≤ j) : CallR X (.builtin "repr") (rShowO C sp E0) :=
  let ⟨_, _, _, F, h1, h2, h3⟩ := c.ex
  call_reprO F h1 h2 h3 (hr.mono hk) pass0
theorem kFld {K : PySem.W.Frag} {e : Expr} {f : Str} {pos : Pos} {ta : TE} (hK : X.K = K) (he : PE X e ta) (hb : attributeBase e f X.env (eval e X.env) = eval e X.env) : PE X (.Attribute e f pos) (tFld K ta f) := by
  subst hK
  exact pe_fld he hb
/-- an own __getitem__ -/
structure OwnG (P : Program) (w : World) (K : PySem.W.Frag) (mg : Str → Option Value) (base : Heap) (CX : CXT) (k : Nat) (C : Addr) (sp : Sp) : Prop where
  ex : ∃ (f : Addr) (fd : FuncData) (ps : List Str), FnOk P w K mg base CX k f fd ps sp ∧ PySem.W.findIn K (.ref C) "__getitem__" = some (some (.ref f)) ∧ PySem.W.isFn K (.ref f) = true ∧ PySem.W.fnIn K f = true ∧ Binds K fd ps []
theorem pe_get0 {a b : Expr} {pos : Pos} {ta tb : TE} (c : OwnG X.prog X.w X.K X.mg X.base CX0 k C sp) (hr : Room j X.A) (hk : k + 1 ≤ j) (ha : PE X a ta) (hi : PE X b tb) (hsl : ∀ o i, subscripted b true o i = runValue (.builtin "lifetime.subscript" ⟨[o, i], []⟩) := by intro _ _; rfl) :
    PE X (.Subscript a b pos) (tGetO C sp (fun _ => E0) ta tb) :=
  let ⟨_, _, _, F, h1, h2, h3, h4⟩ := c.ex
  pe_getO F h1 h2 h3 h4 (hr.mono hk) (fun _ _ _ _ _ _ _ h => h.elim) ha hi hsl
end
theorem nil_app (x : Str) : Str.ofString "" ++ x = x := by
  apply str_ext
  show ((Str.ofString "").cps ++ x.cps).toList = _
  rw [show (Str.ofString "").cps = #[] by decide +kernel]
  simp
theorem app_nil (x : Str) : x ++ Str.ofString "" = x := by
  apply str_ext
  show (x.cps ++ (Str.ofString "").cps).toList = _
  rw [show (Str.ofString "").cps = #[] by decide +kernel]
  simp
/-- a book in the heap: that of a tree -/
structure BkTr (BK : Addr) (H : Hp) (b D : Addr) (n : Nat) (t : Tr n) : Prop where
  ob : ∃ dx, H b = some (.ins BK dx [("marks", .ref D)])
  ma : MkAt H D n t
  lv : n ≤ 6
theorem BkTr.grow {BK : Addr} {H H' : Hp} {b D : Addr} {n : Nat} {t : Tr n} (h : BkTr BK H b D n t) (g : But (fun _ => False) H H') : BkTr BK H' b D n t := let ⟨dx, e⟩ := h.ob; ⟨⟨dx, g _ _ e id⟩, h.ma.grow g, h.lv⟩
/-- is_row_of_keys -/
def isRowD : PyData → Bool
  | .tuple ds => ds.all isStr
  | _ => false
def spIsRow (K : PySem.W.Frag) : Sp := fun vs H Q _ => ∃ (x : V) (d : PyData), vs = [x] ∧ Dp K H x d ∧ (∀ ds, d = .tuple ds → ds.length ≤ 1000) ∧ ∀ H' : Hp, But (fun _ => False) H H' → Q (.bl (isRowD d)) H'
/-- __str__, __repr__ -/
def spBStr (BK : Addr) (pre post : Str) : Sp := fun vs H Q _ => ∃ (b D : Addr) (n : Nat) (t : Tr n), vs = [.ref b] ∧ BkTr BK H b D n t ∧ ∀ H' : Hp, But (fun _ => False) H H' → Q (.str (pre ++ Tr.text n t ++ post)) H'
/-- __len__ -/
def spBLen (BK : Addr) : Sp := fun vs H Q _ => ∃ (b D : Addr) (n : Nat) (t : Tr n), vs = [.ref b] ∧ BkTr BK H b D n t ∧ ∀ H' : Hp, But (fun _ => False) H H' → Q (.int (((Tr.rows n [] t).filter fun r => kinds.contains (Tr.mark r.k r.t)).length : Nat)) H'
/-- whether p is a place of the tree -/
def hasPl (n : Nat) (t : Tr n) (p : List Str) : Bool := (Tr.rows n [] t).any fun r => decide (r.pl = p)
theorem hasPl_val {n : Nat} {t : Tr n} (ho : Tr.Ok n t) (p : List Str) : (valV (kmk (Tr.marks n [] t)) (kp p)).isSome = hasPl n t p := by
  cases e : hasPl n t p with
  | true =>
    obtain ⟨r, hr, h⟩ := List.any_eq_true.mp e
    rw [← of_decide_eq_true h, val_row ho hr]
    rfl
  | false =>
    rw [val_not fun q hq h => ?_]
    · rfl
    · rw [Tr.marks_rows] at hq
      obtain ⟨r, hr, rfl⟩ := List.mem_map.mp hq
      have := List.any_eq_false.mp e r hr
      exact this (decide_eq_true (kp_inj h))
theorem hasPl_row {n : Nat} {t : Tr n} {r : Row} (hr : r ∈ Tr.rows n [] t) : hasPl n t r.pl = true := List.any_eq_true.mpr ⟨r, hr, decide_eq_true rfl⟩
/-- __contains__ of a tuple of texts -/
def spBHas (K : PySem.W.Frag) (BK : Addr) : Sp := fun vs H Q _ => ∃ (b D c : Addr) (n : Nat) (t : Tr n) (p : List Str), vs = [.ref b, .ref c] ∧ BkTr BK H b D n t ∧ SqT K H c (p.map V.str) ∧ p.length ≤ 1000 ∧ ∀ H' : Hp, But (fun _ => False) H H' → Q (.bl (hasPl n t p)) H'
/-- [ ] at a place -/
def spBGet (K : PySem.W.Frag) (BK : Addr) : Sp := fun vs H Q _ => ∃ (b D c : Addr) (n : Nat) (t : Tr n) (r : Row), vs = [.ref b, .ref c] ∧ BkTr BK H b D n t ∧ SqT K H c (r.pl.map V.str) ∧ r ∈ Tr.rows n [] t ∧ ∀ H' : Hp, But (fun _ => False) H H' → Q (.str (Tr.mark r.k r.t)) H'
def spBUnder (K : PySem.W.Frag) (BK : Addr) : Sp := fun vs H Q _ => ∃ (b D c : Addr) (n : Nat) (t : Tr n) (r : Row), vs = [.ref b, .ref c] ∧ BkTr BK H b D n t ∧ SqT K H c (r.pl.map V.str) ∧ r ∈ Tr.rows n [] t ∧
  ∀ (q : Addr) (H' : Hp), H q = none → H' q = some (.tup ((Tr.keys r.k r.t).map V.str)) → But (fun _ => False) H H' → Q (.ref q) H'
def spBForm (K : PySem.W.Frag) (BK : Addr) : Sp := fun vs H Q _ => ∃ (b D c : Addr) (n : Nat) (t : Tr n) (r : Row), vs = [.ref b, .ref c] ∧ BkTr BK H b D n t ∧ SqT K H c (r.pl.map V.str) ∧ r ∈ Tr.rows n [] t ∧ ∀ H' : Hp, But (fun _ => False) H H' → Q (.str (Tr.form r.k r.t)) H'
theorem row_len {H : Hp} {D : Addr} {n : Nat} {t : Tr n} (h : MkAt H D n t) {r : Row} (hr : r ∈ Tr.rows n [] t) : r.pl.length ≤ 10 := by
  have := Tr.rows_lev n t [] r hr
  have := h.lv
  simp at *
  omega
end L2.G42

set_option Elab.async false
set_option linter.all false
set_option maxRecDepth 100000
set_option maxHeartbeats 4000000
namespace L2.G42
open PySem PySem.Spec PyProof.Rows
/-! list(text) -/
theorem vals_signs (l : List Nat) : ∀ (us : List Value), us.length = l.length → (∀ (j : Nat) (v : Value), us[j]? = some v → ∃ (c : Nat) (t : Tok), l[j]? = some c ∧ v = Value.str ⟨#[c]⟩ t) → Vals (l.map fun c => V.str (tx [c])) us := by
  induction l with
  | nil =>
    intro us hl _
    cases us with
    | nil => exact .nil
    | cons a b => cases hl
  | cons c l ih =>
    intro us hl h
    cases us with
    | nil => cases hl
    | cons u us =>
      obtain ⟨c', t, e1, e2⟩ := h 0 u rfl
      injection e1 with e1
      subst e1
      refine .cons ⟨t, e2⟩ (ih us (by simpa using hl) fun j v hv => ?_)
      obtain ⟨c', t, e1, e2⟩ := h (j + 1) v (by simpa using hv)
      exact ⟨c', t, by simpa using e1, e2⟩
section
variable {X : Cx}
theorem cr_listS (hc : X.calm = true) : CallR X (.type "list") (fun xs H Q => ∃ z : Str, xs = [.str z] ∧ z.cps.size ≤ 1000 ∧ ∀ l, H l = none → Q (.ref l) (upd H l (.lst (z.cps.toList.map fun c => V.str (tx [c]))))) := by
  intro pins s σ H xs us Q I r h
  obtain ⟨z, rfl, hz, q⟩ := h
  obtain ⟨u, rfl, rx⟩ := vals1 r
  obtain ⟨t, rfl⟩ := rx
  refine PySem.call_list_str (I.ok.hd hc) z t (fun h' tk acc' c' kp e it => ?_) (szle (by omega))
  have rv : Vals (z.cps.toList.map fun c => V.str (tx [c])) acc'.toList := by
    refine vals_signs _ _ ?_ fun j v hv => ?_
    · rw [Array.length_toList, Array.length_toList]
      exact it.1
    · obtain ⟨c, tk, h1, h2⟩ := it.2 j v (by rw [← Array.getElem?_toList]; exact hv)
      exact ⟨c, tk, by rw [Array.getElem?_toList]; exact h1, h2⟩
  refine ⟨.ref s.heap.objs.size, _, I.laid (t' := tk) kp (Nat.le_refl _) (show ObjOk X.prog X.w _ h' _ (.lst (z.cps.toList.map fun c => V.str (tx [c]))) from ⟨szle (by rw [List.length_map, Array.length_toList]; omega), acc'.toList, c', rv, by rw [Array.toArray_toList]; exact e⟩), rfl, q _ (I.hok.fresh (Nat.le_refl _))⟩
end
end L2.G42

set_option Elab.async false
set_option linter.all false
set_option maxRecDepth 100000
set_option maxHeartbeats 4000000
namespace L2.G42
open PySem PySem.Spec
/-! drawn words: they differ at one place of a stem -/
def Lets (l : List Nat) : Prop := ∀ c ∈ l, letter c = true
theorem Lets.app {a b : List Nat} (h : Lets a) (h2 : Lets b) : Lets (a ++ b) := fun c hc => (List.mem_append.mp hc).elim (h c) (h2 c)
theorem Lets.take {a : List Nat} (h : Lets a) (k : Nat) : Lets (a.take k) := fun c hc => h c (List.mem_of_mem_take hc)
theorem Lets.drop {a : List Nat} (h : Lets a) (k : Nat) : Lets (a.drop k) := fun c hc => h c (List.mem_of_mem_drop hc)
theorem tx_inj {a b : List Nat} (h : tx a = tx b) : a = b := by
  injection h with h
  exact List.toArray_inj h
theorem tx_cps (a : List Nat) : (tx a).cps.toList = a := by simp
theorem tx_len (a : List Nat) : (tx a).length = a.length := by
  show a.toArray.size = _
  simp
theorem tx_app (a b : List Nat) : tx a ++ tx b = tx (a ++ b) := by
  apply str_ext
  show (a.toArray ++ b.toArray).toList = _
  simp
theorem key_tx {l : List Nat} (h1 : l ≠ []) (h2 : l.length ≤ 8) (h3 : Lets l) (h4 : reserved.contains (tx l) = false) : isKey (tx l) = true := by
  unfold isKey
  rw [h4, tx_len, tx_cps]
  have : 1 ≤ l.length := List.length_pos_iff.mpr h1
  simp [this, h2]
  exact h3
/-- no reserved word ends with q -/
theorem res_q (l : List Nat) : reserved.contains (tx (l ++ [113])) = false := by
  cases e : reserved.contains (tx (l ++ [113])) with
  | false => rfl
  | true =>
    have hm := List.contains_iff_mem.mp e
    have all : ∀ x ∈ reserved, x.cps.toList.getLast? ≠ some 113 := by decide +kernel
    have := all _ hm
    rw [tx_cps] at this
    simp at this
theorem res_len {x : Str} (h : reserved.contains x = true) : x.length ≤ 6 := by
  have all : ∀ x ∈ reserved, x.length ≤ 6 := by decide +kernel
  exact all x (List.contains_iff_mem.mp h)
/-- a drawn word: the stem up to at, a letter, some of the stem; or the stem up to at alone -/
def wordOf (stem : List Nat) (at_ : Nat) (c : Nat) (k : Nat) : List Nat := let w := stem.take at_ ++ [c] ++ (stem.drop at_).take k
  if reserved.contains (tx w) = true then w ++ [113] else w
structure Drawn (stem : List Nat) (at_ : Nat) (left : List Nat) (ws : List Str) : Prop where
  key : ∀ w ∈ ws, isKey w = true
  nd : ws.Nodup
  /-- each word is the stem up to at, or has a letter there that is no longer left -/
  sep : ∀ w ∈ ws, w = tx (stem.take at_) ∨ ∃ c r, w = tx (stem.take at_ ++ [c] ++ r) ∧ c ∉ left
theorem word_key {stem : List Nat} {at_ c k : Nat} (hs : Lets stem) (h7 : stem.length ≤ 7) (hc : letter c = true) : isKey (tx (wordOf stem at_ c k)) = true := by
  unfold wordOf
  simp only
  have lw : Lets (stem.take at_ ++ [c] ++ (stem.drop at_).take k) := ((hs.take at_).app (fun x hx => by rw [List.mem_singleton.mp hx]; exact hc)).app ((hs.drop at_).take k)
  have ll : (stem.take at_ ++ [c] ++ (stem.drop at_).take k).length ≤ 8 := by
    rw [List.length_append, List.length_append, List.length_take, List.length_take, List.length_drop]
    simp
    omega
  split
  · rename_i h
    have h6 := res_len h
    rw [tx_len] at h6
    refine key_tx (by simp) ?_ (lw.app fun x hx => by rw [List.mem_singleton.mp hx]; decide) (res_q _)
    rw [List.length_append]
    simp
    simp at h6
    omega
  · rename_i h
    exact key_tx (by simp) ll lw (by simpa using h)
theorem word_shape (stem : List Nat) (at_ c k : Nat) : ∃ r, wordOf stem at_ c k = stem.take at_ ++ [c] ++ r := by
  unfold wordOf
  simp only
  split
  · exact ⟨(stem.drop at_).take k ++ [113], by simp⟩
  · exact ⟨_, rfl⟩
theorem Drawn.nil (stem : List Nat) (at_ : Nat) (left : List Nat) : Drawn stem at_ left [] := ⟨by simp, List.nodup_nil, by simp⟩
theorem Drawn.first {stem : List Nat} {at_ : Nat} {left : List Nat} (hs : Lets stem) (h7 : stem.length ≤ 7) (h0 : 0 < at_) (h1 : at_ ≤ stem.length) (hr : reserved.contains (tx (stem.take at_)) = false) : Drawn stem at_ left [tx (stem.take at_)] := by
  refine ⟨fun w hw => ?_, by simp, fun w hw => .inl (List.mem_singleton.mp hw)⟩
  rw [List.mem_singleton.mp hw]
  refine key_tx (fun e => ?_) (by rw [List.length_take]; omega) (hs.take at_) hr
  have := congrArg List.length e
  rw [List.length_take, List.length_nil] at this
  omega
theorem Drawn.add {stem : List Nat} {at_ : Nat} {left : List Nat} {ws : List Str} (D : Drawn stem at_ left ws) (hs : Lets stem) (h7 : stem.length ≤ 7) {i c k : Nat} (hi : left[i]? = some c) (hn : left.Nodup) (hl : Lets left) : Drawn stem at_ (left.eraseIdx i) (ws ++ [tx (wordOf stem at_ c k)]) := by
  have hc : c ∈ left := List.mem_of_getElem? hi
  obtain ⟨r, er⟩ := word_shape stem at_ c k
  have hne : c ∉ left.eraseIdx i := by
    intro h
    have hlt : i < left.length := by
      rcases Nat.lt_or_ge i left.length with q | q
      · exact q
      · rw [List.getElem?_eq_none q] at hi; cases hi
    have e : left = left.take i ++ c :: left.drop (i + 1) := by
      have := List.take_append_drop i left
      rw [List.drop_eq_getElem_cons hlt] at this
      rw [List.getElem?_eq_getElem hlt] at hi
      injection hi with hi
      rw [hi] at this
      exact this.symm
    rw [List.eraseIdx_eq_take_drop_succ] at h
    rw [e] at hn
    have hn' := List.nodup_append.mp hn
    rcases List.mem_append.mp h with q | q
    · exact hn'.2.2 c q c List.mem_cons_self rfl
    · exact (List.nodup_cons.mp hn'.2.1).1 q
  refine ⟨fun w hw => ?_, ?_, fun w hw => ?_⟩
  · rcases List.mem_append.mp hw with h | h
    · exact D.key w h
    · rw [List.mem_singleton.mp h]
      exact word_key hs h7 (hl c hc)
  · rw [List.nodup_append]
    refine ⟨D.nd, by simp, fun a ha b hb e => ?_⟩
    rw [List.mem_singleton.mp hb] at e
    rcases D.sep a ha with h | ⟨c', r', h, hc'⟩
    · rw [h, er] at e
      have := congrArg List.length (tx_inj e)
      simp at this
    · rw [h, er] at e
      have e2 := tx_inj e
      rw [List.append_assoc, List.append_assoc] at e2
      have e3 := List.append_cancel_left e2
      injection e3 with e4 _
      subst e4
      exact hc' hc
  · rcases List.mem_append.mp hw with h | h
    · rcases D.sep w h with h | ⟨c', r', h, hc'⟩
      · exact .inl h
      · exact .inr ⟨c', r', h, fun q => hc' (List.mem_of_mem_eraseIdx q)⟩
    · rw [List.mem_singleton.mp h, er]
      exact .inr ⟨c, r, rfl, hne⟩
/-- the drawn words -/
def spWords : Sp := fun vs H Q _ => ∃ (a : Addr) (many : Nat), vs = [.ref a, .int many] ∧ 1 ≤ many ∧ many ≤ 20 ∧ SrcAt H a ∧
  ∀ (p : Addr) (ws : List Str) (H' : Hp), H p = none → H' p = some (.lst (ws.map V.str)) → ws.length = many → ws.Nodup → (∀ w ∈ ws, isKey w = true) → SrcAt H' a → But (· = a) H H' → Q (.ref p) H'
end L2.G42
namespace L2.G42
open PySem PySem.Spec
/-- the heap while words are drawn -/
structure WdSt (H H' : Hp) (a rl L Fa : Addr) (left : List Nat) (ws : List Str) : Prop where
  src : SrcAt H' a
  res : H' rl = some (.lst (reserved.map V.str))
  lf : H' L = some (.lst (left.map fun c => V.str (tx [c])))
  fd : H' Fa = some (.lst (ws.map V.str))
  nL : H L = none
  nF : H Fa = none
  nR : H rl = none
  n1 : L ≠ Fa
  n2 : L ≠ rl
  n3 : Fa ≠ rl
  hs : SrcAt H a
  g : But (· = a) H H'
section
variable {H H' : Hp} {a rl L Fa : Addr} {left : List Nat} {ws : List Str}
theorem src_some {H : Hp} {a b : Addr} (h : SrcAt H a) (hb : H b = none) : b ≠ a := fun e => by
  obtain ⟨c, st, n, q⟩ := h
  rw [e, q] at hb
  cases hb
theorem WdSt.draw (W : WdSt H H' a rl L Fa left ws) (c st n : Int) : WdSt H (upd H' a (L2.G42.src c st n)) a rl L Fa left ws :=
  ⟨⟨c, st, n, upd_same⟩, by rw [upd_ne (src_some W.hs W.nR)]; exact W.res, by rw [upd_ne (src_some W.hs W.nL)]; exact W.lf, by rw [upd_ne (src_some W.hs W.nF)]; exact W.fd, W.nL, W.nF, W.nR, W.n1, W.n2, W.n3, W.hs, W.g.trans (But.at rfl)⟩
theorem WdSt.pop (W : WdSt H H' a rl L Fa left ws) (i : Nat) : WdSt H (upd H' L (.lst ((left.map fun c => V.str (tx [c])).eraseIdx i))) a rl L Fa (left.eraseIdx i) ws := by
  refine ⟨?_, by rw [upd_ne W.n2.symm]; exact W.res, ?_, by rw [upd_ne W.n1.symm]; exact W.fd, W.nL, W.nF, W.nR, W.n1, W.n2, W.n3, W.hs, W.g.fresh W.nL⟩
  · obtain ⟨c, st, n, q⟩ := W.src
    exact ⟨c, st, n, by rw [upd_ne (src_some W.hs W.nL).symm]; exact q⟩
  · rw [upd_same, List.eraseIdx_eq_take_drop_succ, List.eraseIdx_eq_take_drop_succ, List.map_append, List.map_take, List.map_drop]
theorem WdSt.push (W : WdSt H H' a rl L Fa left ws) (x : Str) : WdSt H (upd H' Fa (.lst (ws.map V.str ++ [V.str x]))) a rl L Fa left (ws ++ [x]) := by
  refine ⟨?_, by rw [upd_ne W.n3.symm]; exact W.res, by rw [upd_ne W.n1]; exact W.lf, ?_, W.nL, W.nF, W.nR, W.n1, W.n2, W.n3, W.hs, W.g.fresh W.nF⟩
  · obtain ⟨c, st, n, q⟩ := W.src
    exact ⟨c, st, n, by rw [upd_ne (src_some W.hs W.nF).symm]; exact q⟩
  · rw [upd_same, List.map_append]
    rfl
end
theorem letters_nodup : lettersS.cps.toList.Nodup := by
  rw [letters_are]
  decide +kernel
theorem letters_lets : Lets lettersS.cps.toList := fun c hc => by
  rw [← letters_mem]
  exact decide_eq_true hc
theorem letters_len : lettersS.cps.toList.length = 26 := by decide +kernel
theorem cut_pre (l : List Nat) (k : Nat) : cutS (tx l) none (some (k : Int)) = tx (l.take k) := by
  unfold cutS HT.sIx
  rw [tx_len, tx_cps]
  simp only [if_neg (show ¬ ((k : Int) < 0) by omega), Int.toNat_natCast]
  congr 2
  rw [List.drop_zero, Nat.sub_zero]
  rcases Nat.lt_or_ge k l.length with h | h
  · rw [Nat.min_eq_left (by omega)]
  · rw [Nat.min_eq_right h, List.take_of_length_le (by omega), List.take_of_length_le h]
theorem cut_seg (l : List Nat) (k e : Nat) : cutS (tx l) (some (k : Int)) (some ((k : Int) + (e : Int))) = tx ((l.drop k).take e) := by
  have : (k : Int) + (e : Int) = ((k + e : Nat) : Int) := by omega
  rw [this]
  unfold cutS HT.sIx
  rw [tx_len, tx_cps]
  simp only [if_neg (show ¬ ((k : Int) < 0) by omega), if_neg (show ¬ (((k + e : Nat) : Int) < 0) by omega), Int.toNat_natCast]
  congr 2
  rcases Nat.lt_or_ge k l.length with h | h
  · rw [Nat.min_eq_left (by omega : k ≤ l.length)]
    rcases Nat.lt_or_ge (k + e) l.length with h2 | h2
    · rw [Nat.min_eq_left (by omega)]
      congr 1
      omega
    · rw [Nat.min_eq_right h2, List.take_of_length_le (by rw [List.length_drop]; omega), List.take_of_length_le (by rw [List.length_drop]; omega)]
  · rw [Nat.min_eq_right h, List.drop_eq_nil_of_le (Nat.le_refl _), List.drop_eq_nil_of_le h]
    simp
end L2.G42

set_option Elab.async false
set_option linter.all false
set_option maxRecDepth 100000
set_option maxHeartbeats 4000000
namespace L2.G42
open PySem PySem.Spec
/-- two parts of the heap together -/
def both (G G2 : Hp) : Hp := fun x => match G x with
  | some o => some o
  | none => G2 x
theorem both_left {G G2 : Hp} : Part G (both G G2) := fun x o h => by
  unfold both
  rw [h]
theorem both_right {G G2 H1 : Hp} (p : Part G H1) (f : ∀ x, H1 x ≠ none → G2 x = none) : Part G2 (both G G2) := fun x o h => by
  unfold both
  have : G x = none := by
    cases e : G x with
    | none => rfl
    | some u => rw [f x (by rw [p x u e]; simp)] at h; cases h
  rw [this]
  exact h
theorem both_part {G G2 H2 : Hp} (p : Part G H2) (q : Part G2 H2) : Part (both G G2) H2 := fun x o h => by
  unfold both at h
  cases e : G x with
  | none => rw [e] at h; exact q x o h
  | some u =>
    rw [e] at h
    have : u = o := by injection h
    rw [← this]
    exact p x u e
theorem both_none {G G2 : Hp} {x : Addr} (h : G x = none) (h2 : G2 x = none) : both G G2 x = none := by
  unfold both
  rw [h]
  exact h2
def ent (n : Nat) (e : Str × Tr n) : PyData := .list [.str e.1, Tr.dat n e.2]
/-- the heap while a table is drawn -/
structure TbSt (K : PySem.W.Frag) (n : Nat) (H H1 : Hp) (a wl lf KL EL : Addr) (ws ks : List Str) (es : List (Str × Tr n)) (t1 b1 : Nat) (vs : List V) (G : Hp) : Prop where
  src : SrcAt H1 a
  ewl : H1 wl = some (.lst (ws.map V.str))
  elf : H1 lf = some (.lst [.int (t1 : Nat), .int (b1 : Nat)])
  kl : H1 KL = some (.lst (ks.map V.str))
  el : H1 EL = some (.lst vs)
  dp : DpAll K G vs (es.map (ent n))
  part : Part G H1
  fr : ∀ x, H x ≠ none → G x = none
  gK : G KL = none
  gE : G EL = none
  nK : H KL = none
  nE : H EL = none
  ne : KL ≠ EL
  ha : SrcAt H a
  hw : H wl ≠ none
  hl : H lf ≠ none
  n1 : a ≠ wl
  n2 : a ≠ lf
  n3 : wl ≠ lf
  g : But (fun x => x = a ∨ x = lf) H H1
section
variable {K : PySem.W.Frag} {n : Nat} {H H1 : Hp} {a wl lf KL EL : Addr} {ws ks : List Str} {es : List (Str × Tr n)} {t1 b1 : Nat} {vs : List V} {G : Hp}
theorem ne_none {H : Hp} {x y : Addr} (h : H x ≠ none) (h2 : H y = none) : x ≠ y := fun e => h (e ▸ h2)
theorem src_ne' {H : Hp} {a : Addr} (h : SrcAt H a) : H a ≠ none := by
  obtain ⟨c, st, n, e⟩ := h
  rw [e]
  simp
theorem SrcAt.upd {H : Hp} {a p : Addr} {o : HO} (h : SrcAt H a) (ne : a ≠ p) : SrcAt (L2.upd H p o) a := let ⟨c, st, n, e⟩ := h; ⟨c, st, n, by rw [upd_ne ne]; exact e⟩
theorem TbSt.draw (T : TbSt K n H H1 a wl lf KL EL ws ks es t1 b1 vs G) (c st m : Int) : TbSt K n H (upd H1 a (L2.G42.src c st m)) a wl lf KL EL ws ks es t1 b1 vs G := by
  have aK := ne_none (src_ne' T.ha) T.nK
  have aE := ne_none (src_ne' T.ha) T.nE
  exact ⟨⟨c, st, m, upd_same⟩, by rw [upd_ne T.n1.symm]; exact T.ewl, by rw [upd_ne T.n2.symm]; exact T.elf, by rw [upd_ne aK.symm]; exact T.kl, by rw [upd_ne aE.symm]; exact T.el, T.dp, T.part.upd (T.fr a (src_ne' T.ha)), T.fr, T.gK, T.gE, T.nK, T.nE, T.ne, T.ha, T.hw, T.hl, T.n1, T.n2, T.n3, T.g.trans (But.at (.inl rfl))⟩
theorem TbSt.left (T : TbSt K n H H1 a wl lf KL EL ws ks es t1 b1 vs G) (t2 b2 : Nat) : TbSt K n H (upd H1 lf (.lst [.int (t2 : Nat), .int (b2 : Nat)])) a wl lf KL EL ws ks es t2 b2 vs G := by
  have lK := ne_none T.hl T.nK
  have lE := ne_none T.hl T.nE
  exact ⟨T.src.upd T.n2, by rw [upd_ne T.n3]; exact T.ewl, upd_same, by rw [upd_ne lK.symm]; exact T.kl, by rw [upd_ne lE.symm]; exact T.el, T.dp, T.part.upd (T.fr lf T.hl), T.fr, T.gK, T.gE, T.nK, T.nE, T.ne, T.ha, T.hw, T.hl, T.n1, T.n2, T.n3, T.g.trans (But.at (.inr rfl))⟩
theorem TbSt.pop (T : TbSt K n H H1 a wl lf KL EL ws ks es t1 b1 vs G) (i : Nat) : TbSt K n H (upd H1 KL (.lst ((ks.map V.str).eraseIdx i))) a wl lf KL EL ws (ks.eraseIdx i) es t1 b1 vs G := by
  have aK := ne_none (src_ne' T.ha) T.nK
  have lK := ne_none T.hl T.nK
  have wK := ne_none T.hw T.nK
  refine ⟨T.src.upd aK, by rw [upd_ne wK]; exact T.ewl, by rw [upd_ne lK]; exact T.elf, ?_, by rw [upd_ne T.ne.symm]; exact T.el, T.dp, T.part.upd T.gK, T.fr, T.gK, T.gE, T.nK, T.nE, T.ne, T.ha, T.hw, T.hl, T.n1, T.n2, T.n3, T.g.fresh T.nK⟩
  rw [upd_same, List.eraseIdx_eq_take_drop_succ, List.eraseIdx_eq_take_drop_succ, List.map_append, List.map_take, List.map_drop]
/-- [key, item] is put behind; the item within G2, which is new -/
theorem TbSt.push {H2 G2 : Hp} {key : Str} {t : Tr n} {v : V} {p : Addr} {t2 b2 : Nat} (T : TbSt K n H H1 a wl lf KL EL ws ks es t1 b1 vs G) (b : But (fun x => x = a ∨ x = lf) H1 H2) (s2 : SrcAt H2 a) (l2 : H2 lf = some (.lst [.int (t2 : Nat), .int (b2 : Nat)]))
    (p2 : Part G2 H2) (f2 : ∀ x, H1 x ≠ none → G2 x = none) (d2 : Dp K G2 v (Tr.dat n t)) (hp : H2 p = none) :
    TbSt K n H (upd (upd H2 p (.lst [.str key, v])) EL (.lst (vs ++ [.ref p]))) a wl lf KL EL ws ks (es ++ [(key, t)]) t2 b2 (vs ++ [.ref p]) (upd (both G G2) p (.lst [.str key, v])) := by
  have aK := ne_none (src_ne' T.ha) T.nK
  have aE := ne_none (src_ne' T.ha) T.nE
  have lK := ne_none T.hl T.nK
  have lE := ne_none T.hl T.nE
  have wK := ne_none T.hw T.nK
  have wE := ne_none T.hw T.nE
  have kl2 : H2 KL = some (.lst (ks.map V.str)) := b _ _ T.kl fun e => e.elim (fun e => aK e.symm) (fun e => lK e.symm)
  have el2 : H2 EL = some (.lst vs) := b _ _ T.el fun e => e.elim (fun e => aE e.symm) (fun e => lE e.symm)
  have wl2 : H2 wl = some (.lst (ws.map V.str)) := b _ _ T.ewl fun e => e.elim (fun e => T.n1 e.symm) (fun e => T.n3 e)
  have pK := ne_of_none kl2 hp
  have pE := ne_of_none el2 hp
  have pW := ne_of_none wl2 hp
  have pL := ne_of_none l2 hp
  have pA : a ≠ p := ne_none (src_ne' s2) hp
  have gp1 : G p = none := by
    cases e : G p with
    | none => rfl
    | some o =>
      have := T.part p o e
      have h3 := b p o this fun q => q.elim (fun q => pA q.symm) (fun q => pL q.symm)
      rw [h3] at hp
      cases hp
  have gp2 : G2 p = none := p2.free hp
  have gg : both G G2 p = none := both_none gp1 gp2
  have part2 : Part (both G G2) H2 := both_part (T.part.but b fun x hx => hx.elim (fun e => e ▸ T.fr a (src_ne' T.ha)) (fun e => e ▸ T.fr lf T.hl)) p2
  have hp1 : H p = none := by
    cases e : H p with
    | none => rfl
    | some o =>
      have := b p _ (T.g p o e fun q => q.elim (fun q => pA q.symm) (fun q => pL q.symm)) fun q => q.elim (fun q => pA q.symm) (fun q => pL q.symm)
      rw [this] at hp
      cases hp
  have gE2 : G2 EL = none := f2 EL (by rw [T.el]; simp)
  have gK2 : G2 KL = none := f2 KL (by rw [T.kl]; simp)
  refine ⟨(s2.upd pA).upd aE, ?_, ?_, ?_, upd_same, ?_, ?_, fun x hx => ?_, ?_, ?_, T.nK, T.nE, T.ne, T.ha, T.hw, T.hl, T.n1, T.n2, T.n3, ?_⟩
  · rw [upd_ne wE, upd_ne pW]; exact wl2
  · rw [upd_ne lE, upd_ne pL]; exact l2
  · rw [upd_ne T.ne, upd_ne pK]; exact kl2
  · rw [List.map_append]
    refine DpAll.append (DpAll.part (both_left.trans (Part.refl.upd gg)) _ _ T.dp) (.cons ?_ .nil)
    refine .lst (SqL.of upd_same) (.cons (.str key) (.cons ?_ .nil))
    exact Dp.part ((both_right T.part f2).trans (Part.refl.upd gg)) _ _ d2
  · refine (part2.both).upd ?_
    rw [upd_ne pE]
    exact both_none T.gE gE2
  · have : x ≠ p := ne_none hx hp1
    rw [upd_ne this]
    refine both_none (T.fr x hx) (f2 x ?_)
    by_cases e1 : x = a
    · rw [e1]; exact src_ne' T.src
    · by_cases e2 : x = lf
      · rw [e2, T.elf]; simp
      · cases q : H x with
        | none => exact absurd q hx
        | some o => rw [T.g x o q fun z => z.elim e1 e2]; simp
  · rw [upd_ne pK]; exact both_none T.gK gK2
  · rw [upd_ne pE]; exact both_none T.gE gE2
  · refine But.fresh ?_ T.nE
    exact But.fresh (T.g.trans b) hp1
end
/-- the keys of a table that is drawn, and those left -/
structure KsSt (n : Nat) (ks : List Str) (es : List (Str × Tr n)) : Prop where
  nd : (es.map (·.1) ++ ks).Nodup
  key : ∀ k ∈ ks, isKey k = true
  ok : ∀ e ∈ es, isKey e.1 = true ∧ Tr.Ok n e.2 ∧ Tr.Few n e.2
theorem KsSt.step {n : Nat} {ks : List Str} {es : List (Str × Tr n)} (S : KsSt n ks es) {i : Nat} {key : Str} (hi : ks[i]? = some key) {t : Tr n} (ho : Tr.Ok n t) (hf : Tr.Few n t) : KsSt n (ks.eraseIdx i) (es ++ [(key, t)]) := by
  have hlt : i < ks.length := by
    rcases Nat.lt_or_ge i ks.length with q | q
    · exact q
    · rw [List.getElem?_eq_none q] at hi; cases hi
  have hk : key ∈ ks := List.mem_of_getElem? hi
  have e : ks = ks.take i ++ key :: ks.drop (i + 1) := by
    have := List.take_append_drop i ks
    rw [List.drop_eq_getElem_cons hlt] at this
    rw [List.getElem?_eq_getElem hlt] at hi
    injection hi with hi
    rw [hi] at this
    exact this.symm
  refine ⟨?_, fun k h => S.key k (List.mem_of_mem_eraseIdx h), fun x hx => ?_⟩
  · have nd := S.nd
    have p : ((es ++ [(key, t)]).map (·.1) ++ ks.eraseIdx i).Perm (es.map (·.1) ++ ks) := by
      rw [List.map_append, List.append_assoc, List.eraseIdx_eq_take_drop_succ]
      refine List.Perm.append_left _ ?_
      have q : (key :: (ks.take i ++ ks.drop (i + 1))).Perm (ks.take i ++ key :: ks.drop (i + 1)) := List.perm_middle.symm
      rw [← e] at q
      exact q
    exact p.nodup_iff.mpr nd
  · rcases List.mem_append.mp hx with h | h
    · exact S.ok x h
    · rw [List.mem_singleton.mp h]
      exact ⟨S.key key hk, ho, hf⟩
/-- a table is drawn: n levels of tables at most, it included -/
def spTab (K : PySem.W.Frag) (n : Nat) : Sp := fun vs H Q _ => ∃ (a wl lf : Addr) (ws : List Str) (lv tb bb : Nat), vs = [.ref a, .ref wl, .ref lf, .int (lv : Nat)] ∧ lv + n = 5 ∧ SrcAt H a ∧ H wl = some (.lst (ws.map V.str)) ∧ H lf = some (.lst [.int (tb : Nat), .int (bb : Nat)]) ∧ a ≠ wl ∧ a ≠ lf ∧ wl ≠ lf ∧ 3 ≤ ws.length ∧ ws.length ≤ 20 ∧ ws.Nodup ∧ (∀ w ∈ ws, isKey w = true) ∧ tb ≤ 100 ∧ bb ≤ 100 ∧
  ∀ (v : V) (t : Tr n) (t1 b1 : Nat) (G H' : Hp), t.isRight = true → Tr.Ok n t → Tr.Few n t → Tr.nt n t + t1 = tb + 1 → Tr.nb n t + b1 = bb + 1 → Dp K G v (Tr.dat n t) → Part G H' → (∀ x, H x ≠ none → G x = none) → SrcAt H' a → H' lf = some (.lst [.int (t1 : Nat), .int (b1 : Nat)]) → But (fun x => x = a ∨ x = lf) H H' → Q v H'
end L2.G42

set_option Elab.async false
set_option linter.all false
set_option maxRecDepth 100000
set_option maxHeartbeats 4000000
namespace L2.G42
open PySem PySem.Spec
/-! trees in the heap -/
section
variable {K : PySem.W.Frag} {H : Hp} {n : Nat}
theorem dat_tab_inv {v : V} {m : Str} {es : List (Str × Tr n)} (h : Dp K H v (Tr.dat (n + 1) (Tr.tab m es))) : ∃ a0 a1 evs, v = .ref a0 ∧ SqL K H a0 [.str m, .ref a1] ∧ SqL K H a1 evs ∧ DpAll K H evs (es.map (ent n)) := by
  rw [Tr.dat_tab] at h
  cases h with
  | lst h1 h2 =>
    cases h2 with
    | cons a b =>
      cases a
      cases b with
      | cons c d =>
        cases d
        cases c with
        | lst h3 h4 => exact ⟨_, _, _, rfl, h1, h3, h4⟩
theorem ent_inv {x : V} {e : Str × Tr n} (h : Dp K H x (ent n e)) : ∃ b y, x = .ref b ∧ SqL K H b [.str e.1, y] ∧ Dp K H y (Tr.dat n e.2) := by
  unfold ent at h
  cases h with
  | lst h1 h2 =>
    cases h2 with
    | cons a b =>
      cases a
      cases b with
      | cons c d =>
        cases d
        exact ⟨_, _, rfl, h1, c⟩
theorem dat_bag_inv {v : V} {k : Str} (h : Dp K H v (Tr.dat n (Tr.bag k))) : v = .str k := by
  rw [Tr.dat_bag] at h
  cases h
  rfl
theorem Dp.grow {H' : Hp} {v : V} {d : PyData} (h : Dp K H v d) (g : But (fun _ => False) H H') : Dp K H' v d := Dp.part (fun b o e => g b o e id) d v h
theorem DpAll.grow {H' : Hp} {vs : List V} {ds : List PyData} (h : DpAll K H vs ds) (g : But (fun _ => False) H H') : DpAll K H' vs ds := DpAll.part (fun b o e => g b o e id) ds vs h
theorem isStr_dat (t : Tr n) : isStr (Tr.dat n t) = t.isLeft := by
  cases n with
  | zero =>
    cases t with
    | inl k => rfl
    | inr x => cases x
  | succ n =>
    cases t with
    | inl k => rfl
    | inr x => rfl
end
namespace Tr
theorem commas_snoc (xs : List (List Str)) (y : List Str) : commas (xs ++ [y]) = (if xs = [] then y else commas xs ++ (Str.ofString "," :: y)) := by
  cases xs with
  | nil => simp [commas]
  | cons x xs =>
    rw [if_neg (by simp)]
    show x ++ ((xs ++ [y]).map fun y => Str.ofString "," :: y).flatten = _
    rw [List.map_append, List.flatten_append]
    show _ = (x ++ (xs.map fun y => Str.ofString "," :: y).flatten) ++ _
    simp
theorem commas_len : ∀ xs : List (List Str), (commas xs).length ≤ (xs.map fun x => x.length + 1).sum
  | [] => Nat.le_refl _
  | x :: xs => by
    show (x ++ (xs.map fun y => Str.ofString "," :: y).flatten).length ≤ _
    rw [List.length_append, List.length_flatten, List.map_map, List.map_cons, List.sum_cons]
    have : xs.map (List.length ∘ fun y => Str.ofString "," :: y) = xs.map fun x => x.length + 1 := rfl
    rw [this]
    omega
theorem toks_len : ∀ (n : Nat) (t : Tr n) (p : List Str), (toks n t).length + 3 ≤ 6 * (rows n p t).length := by
  refine ind (fun n k p => ?_) (fun n m es ih p => ?_)
  · rw [toks_bag, rows_bag]
    exact (by decide : 1 + 3 ≤ 6 * 1)
  · rw [toks_tab, rows_tab]
    simp only [List.length_cons, List.length_append, List.length_nil]
    rw [len_flatMap]
    have h := commas_len (es.map fun e => e.1 :: ":" :: toks n e.2)
    rw [List.map_map] at h
    have s : (es.map ((fun x : List Str => x.length + 1) ∘ fun e => e.1 :: ":" :: toks n e.2)).sum ≤ (es.map fun e => 6 * (rows n (p ++ [e.1]) e.2).length).sum := sum_le fun e he => by
      have := ih e he (p ++ [e.1])
      show (e.1 :: Str.ofString ":" :: toks n e.2).length + 1 ≤ _
      simp only [List.length_cons]
      omega
    rw [sum_mul] at s
    omega
end Tr
theorem Tr.tr_cases {n : Nat} (t : Tr (n + 1)) : (∃ k, t = Tr.bag k) ∨ ∃ (m : Str) (es : List (Str × Tr n)), t = Tr.tab m es := by
  cases t with
  | inl k => exact .inl ⟨k, rfl⟩
  | inr x => exact .inr ⟨x.1, x.2, rfl⟩
theorem Tr.tr_zero (t : Tr 0) : ∃ k, t = Tr.bag k := by
  cases t with
  | inl k => exact ⟨k, rfl⟩
  | inr x => cases x
/-- the tokens of an entry -/
abbrev Tr.part {n : Nat} (e : Str × Tr n) : List Str := e.1 :: Str.ofString ":" :: Tr.toks n e.2
theorem Tr.parts_le {n : Nat} (m : Str) (es : List (Str × Tr n)) (q : Nat) : (m :: Str.ofString "{" :: Tr.commas ((es.take q).map Tr.part)).length ≤ 6 * (Tr.rows (n + 1) [] (Tr.tab m es)).length := by
  have c1 := Tr.commas_len ((es.take q).map Tr.part)
  have c2 : (((es.take q).map Tr.part).map fun x => x.length + 1).sum ≤ ((es.map Tr.part).map fun x => x.length + 1).sum := by
    have : es.take q ++ es.drop q = es := List.take_append_drop q es
    conv => rhs; rw [← this]
    rw [List.map_append, List.map_append, List.sum_append]
    omega
  have c3 : ((es.map Tr.part).map fun x => x.length + 1).sum + 6 ≤ 6 * (Tr.rows (n + 1) [] (Tr.tab m es)).length := by
    rw [List.map_map, Tr.rows_tab, List.length_cons, Tr.len_flatMap]
    have s : (es.map ((fun x : List Str => x.length + 1) ∘ Tr.part)).sum ≤ (es.map fun e => 6 * (Tr.rows n ([] ++ [e.1]) e.2).length).sum := Tr.sum_le fun e he => by
      have := Tr.toks_len n e.2 ([] ++ [e.1])
      show (e.1 :: Str.ofString ":" :: Tr.toks n e.2).length + 1 ≤ _
      simp only [List.length_cons]
      omega
    rw [Tr.sum_mul] at s
    omega
  simp only [List.length_cons]
  omega
theorem Tr.parts_step {n : Nat} {es : List (Str × Tr n)} {i : Nat} {e : Str × Tr n} (ee : es[i]? = some e) : Tr.commas ((es.take (i + 1)).map Tr.part) = Tr.commas ((es.take i).map Tr.part) ++ (if 0 < i then [Str.ofString ","] else []) ++ Tr.part e := by
  have e1 : es.take (i + 1) = es.take i ++ [e] := by rw [List.take_add_one, ee]; rfl
  rw [e1, List.map_append, List.map_singleton, Tr.commas_snoc]
  by_cases hp : 0 < i
  · have hne : (es.take i).map Tr.part ≠ [] := fun q => by
      have hl := congrArg List.length q
      rw [List.length_map, List.length_take, List.length_nil] at hl
      have : i < es.length := by
        rcases Nat.lt_or_ge i es.length with z | z
        · exact z
        · rw [List.getElem?_eq_none z] at ee; cases ee
      omega
    rw [if_pos hp, if_neg hne]
    simp
  · have : i = 0 := by omega
    subst this
    simp [Tr.commas]
theorem Tr.child_len {n : Nat} {m : Str} {es : List (Str × Tr n)} {e : Str × Tr n} (he : e ∈ es) : (Tr.rows n [] e.2).length ≤ (Tr.rows (n + 1) [] (Tr.tab m es)).length := by
  have h1 := Tr.rows_len (n + 1) (Tr.tab m es) [] ⟨[] ++ [e.1], n, e.2⟩ (List.mem_cons_of_mem _ (List.mem_flatMap.mpr ⟨e, he, Tr.rows_self n e.2 _⟩))
  have h2 := Tr.len_at n e.2 [] ([] ++ [e.1])
  have h1' : (Tr.rows n ([] ++ [e.1]) e.2).length ≤ (Tr.rows (n + 1) [] (Tr.tab m es)).length := h1
  omega
/-- the tokens of an item -/
def spToksT (K : PySem.W.Frag) (n : Nat) : Sp := fun vs H Q _ => ∃ (v : V) (t : Tr n), vs = [v] ∧ Dp K H v (Tr.dat n t) ∧ (Tr.rows n [] t).length ≤ 1000 ∧
  ∀ (p : Addr) (H' : Hp), H p = none → H' p = some (.lst ((Tr.toks n t).map V.str)) → But (fun _ => False) H H' → Q (.ref p) H'
end L2.G42

set_option Elab.async false
set_option linter.all false
set_option maxRecDepth 100000
set_option maxHeartbeats 4000000
namespace L2.G42
open PySem PySem.Spec
theorem loose_end : ∀ (ps : List (Nat × List Nat)) (e : Nat), loose ps e = loose ps 0 ++ List.replicate e 32
  | [], e => by simp [loose]
  | (s, t) :: ps, e => by
    show List.replicate s 32 ++ (t ++ loose ps e) = List.replicate s 32 ++ (t ++ loose ps 0) ++ List.replicate e 32
    rw [loose_end ps e]
    simp
theorem loose_snoc : ∀ (ps : List (Nat × List Nat)) (s : Nat) (t : List Nat), loose (ps ++ [(s, t)]) 0 = loose ps 0 ++ List.replicate s 32 ++ t
  | [], s, t => by simp [loose]
  | (s', t') :: ps, s, t => by
    show List.replicate s' 32 ++ (t' ++ loose (ps ++ [(s, t)]) 0) = List.replicate s' 32 ++ (t' ++ loose ps 0) ++ List.replicate s 32 ++ t
    rw [loose_snoc ps s t]
    simp
theorem placed_snoc : ∀ (n : Nat) (ps : List (Nat × List Nat)) (s : Nat) (t : List Nat), placed n (ps ++ [(s, t)]) = placed n ps ++ [(n + (loose ps 0).length + s, t)]
  | n, [], s, t => by simp [placed, loose]
  | n, (s', t') :: ps, s, t => by
    show (n + s', t') :: placed (n + s' + t'.length) (ps ++ [(s, t)]) = (n + s', t') :: placed (n + s' + t'.length) ps ++ [(n + (List.replicate s' 32 ++ (t' ++ loose ps 0)).length + s, t)]
    rw [placed_snoc]
    simp only [List.cons_append, List.length_append, List.length_replicate]
    congr 4
    omega
/-- a text of tokens with drawn spaces -/
def spLoose (K : PySem.W.Frag) : Sp := fun vs H Q _ => ∃ (a tl : Addr) (ts : List Str), vs = [.ref a, .ref tl] ∧ SrcAt H a ∧ SqL K H tl (ts.map V.str) ∧ a ≠ tl ∧ ts.length ≤ 6000 ∧ (∀ t ∈ ts, t.length ≤ 9) ∧
  ∀ (p q : Addr) (ps : List (Nat × List Nat)) (e : Nat) (H' : Hp), ps.map (fun x => tx x.2) = ts → (loose ps e).length ≤ 90000 → H p = none → H q = none → H' p = some (.tup [.str (tx (loose ps e)), .ref q]) → H' q = some (.lst ((placed 0 ps).map fun x => V.int (x.1 : Nat))) → SrcAt H' a → But (· = a) H H' → Q (.ref p) H'
end L2.G42

set_option Elab.async false
set_option linter.all false
set_option maxRecDepth 100000
set_option maxHeartbeats 4000000
namespace L2.G42
open PySem PySem.Spec
theorem dpall_zip {K : PySem.W.Frag} {H : Hp} {n : Nat} : ∀ {evs : List V} {es : List (Str × Tr n)}, DpAll K H evs (es.map (ent n)) → ∀ z ∈ evs.zip es, Dp K H z.1 (ent n z.2)
  | [], [], _, z, hz => by cases hz
  | [], _ :: _, h, _, _ => by cases h
  | _ :: _, [], h, _, _ => by cases h
  | x :: evs, e :: es, h, z, hz => by
    cases h with
    | cons a b =>
      rcases List.mem_cons.mp hz with q | q
      · rw [q]; exact a
      · exact dpall_zip b z q
/-- sorted(entries) -/
theorem sort_ents {K : PySem.W.Frag} {G H : Hp} {n : Nat} {a1 : Addr} {evs : List V} {es : List (Str × Tr n)} {Q : VK} (pa : Part G H) (s1 : SqL K H a1 evs) (da : DpAll K G evs (es.map (ent n))) (hd : DiffBy (·.1) es)
    (k : ∀ (p : Addr) (zs : List (V × (Str × Tr n))), H p = none → zs.map Prod.snd = srtBy ltS (·.1) es → (∀ z ∈ zs, Dp K G z.1 (ent n z.2)) → zs.length = es.length → (∀ z ∈ zs, z.2 ∈ es) → Q (.ref p) (upd H p (.lst (zs.map Prod.fst)))) : rSortLS K [.ref a1] H Q := by
  have hl : evs.length = es.length := by rw [DpAll.len da, List.length_map]
  have hdz : DiffBy (fun z : V × (Str × Tr n) => z.2.1) (evs.zip es) := by
    have : DiffBy (·.1) ((evs.zip es).map Prod.snd) := by rw [zip_snd hl]; exact hd
    exact (List.pairwise_map (f := Prod.snd) (R := fun a b : Str × Tr n => a.1 ≠ b.1)).mp this
  refine ⟨V × (Str × Tr n), Prod.fst, fun z => z.2.1, evs.zip es, a1, rfl, by rw [zip_fst hl]; exact s1, fun z hz => ?_, hdz, fun p hp => ?_⟩
  · obtain ⟨b, y, e, sb, _⟩ := ent_inv (dpall_zip da z hz)
    exact ⟨b, [y], e, SqL.part sb pa⟩
  · refine k p (srtBy ltS (fun z : V × (Str × Tr n) => z.2.1) (evs.zip es)) hp ?_ (fun z hz => dpall_zip da z (srtBy_mem.mp hz)) ?_ fun z hz => ?_
    · have := srtBy_map tot_ltS (k := fun z : V × (Str × Tr n) => z.2.1) (k2 := fun e : Str × Tr n => e.1) (f := Prod.snd) (fun _ => rfl) hdz
      rw [zip_snd hl] at this
      exact this.symm
    · rw [srtBy_len, List.length_zip, hl, Nat.min_self]
    · have : z.2 ∈ (evs.zip es).map Prod.snd := List.mem_map.mpr ⟨z, srtBy_mem.mp hz, rfl⟩
      rw [zip_snd hl] at this
      exact this
/-- the text of an item with ascending keys, or its form -/
def spShT (K : PySem.W.Frag) (b : Bool) (n : Nat) : Sp := fun vs H Q _ => ∃ (v : V) (t : Tr n), vs = [v] ∧ Dp K H v (Tr.dat n t) ∧ Tr.Ok n t ∧ (Tr.rows n [] t).length ≤ 1000 ∧ ∀ H' : Hp, But (fun _ => False) H H' → Q (.str (shw b n (Tr.srt n t))) H'
theorem shw_srt {b : Bool} {n : Nat} {m : Str} {es : List (Str × Tr n)} (hd : DiffBy (·.1) es) : shw b (n + 1) (Tr.srt (n + 1) (Tr.tab m es)) = (if b = true then m else "") ++ "{" ++ Txt.join "," ((srtBy ltS (·.1) es).map fun e => e.1 ++ ":" ++ shw b n (Tr.srt n e.2)) ++ "}" := by
  rw [Tr.srt_tab, Tr.srt_es hd, shw_tab, List.map_map]
  rfl
theorem Tr.rows_srt : ∀ (n : Nat) (t : Tr n), Ok n t → ∀ p, (rows n p (srt n t)).length = (rows n p t).length := by
  intro n t ho p
  rw [← marks_len, ← marks_len]
  exact (marks_srt n t ho p).1.length_eq
theorem shw_bag {b : Bool} {n : Nat} {k : Str} : shw b n (Tr.bag k) = if b = true then k else "*" := by
  unfold shw
  rw [Tr.text_bag, Tr.form_bag]
end L2.G42

set_option Elab.async false
set_option linter.all false
set_option maxRecDepth 100000
set_option maxHeartbeats 4000000
namespace L2.G42
open PySem PySem.Spec
/-- the places of an item ascending, each with its item (as it is) -/
def Tr.lrows : (n : Nat) → List Str → Tr n → List Row
  | n, p, .inl k => [⟨p, n, .inl k⟩]
  | 0, _, .inr x => nomatch x
  | n + 1, p, .inr (m, es) => ⟨p, n + 1, tab m es⟩ :: (srtBy ltS (·.1) es).flatMap fun e => Tr.lrows n (p ++ [e.1]) e.2
def Row.srt (r : Row) : Row := ⟨r.pl, r.k, Tr.srt r.k r.t⟩
namespace Tr
theorem lrows_bag {n : Nat} {k : Str} {p : List Str} : lrows n p (bag k) = [⟨p, n, bag k⟩] := by cases n <;> rfl
theorem lrows_tab {n : Nat} {m : Str} {es : List (Str × Tr n)} {p : List Str} : lrows (n + 1) p (tab m es) = ⟨p, n + 1, tab m es⟩ :: (srtBy ltS (·.1) es).flatMap fun e => lrows n (p ++ [e.1]) e.2 := rfl
theorem rows_of_srt : ∀ (n : Nat) (t : Tr n), Ok n t → ∀ p, rows n p (srt n t) = (lrows n p t).map Row.srt := by
  refine ind (fun n k _ p => ?_) (fun n m es ih ho p => ?_)
  · rw [srt_bag, rows_bag, lrows_bag, List.map_singleton]
    show _ = [Row.mk p n (srt n (bag k))]
    rw [srt_bag]
  · rw [lrows_tab, List.map_cons, srt_tab, srt_es ho.2.2.1, rows_tab, List.map_flatMap, List.flatMap_map]
    congr 1
    · show _ = Row.mk p (n + 1) (srt (n + 1) (tab m es))
      rw [srt_tab, srt_es ho.2.2.1]
    · exact flatMap_same fun e he => ih e (srtBy_mem.mp he) (ho.2.2.2 e (srtBy_mem.mp he)).2 _
theorem lrows_ok : ∀ (n : Nat) (t : Tr n), Ok n t → ∀ p, ∀ r ∈ lrows n p t, Ok r.k r.t ∧ r.k ≤ n ∧ (rows r.k [] r.t).length ≤ (rows n [] t).length := by
  refine ind (fun n k h p r hr => ?_) (fun n m es ih ho p r hr => ?_)
  · rw [lrows_bag] at hr
    rw [List.mem_singleton.mp hr]
    exact ⟨h, Nat.le_refl _, Nat.le_refl _⟩
  · rw [lrows_tab] at hr
    rcases List.mem_cons.mp hr with e1 | hr
    · rw [e1]
      exact ⟨ho, Nat.le_refl _, Nat.le_refl _⟩
    · obtain ⟨y, hy, hr⟩ := List.mem_flatMap.mp hr
      have hy' := srtBy_mem.mp hy
      have := ih y hy' (ho.2.2.2 y hy').2 _ r hr
      exact ⟨this.1, Nat.le_succ_of_le this.2.1, Nat.le_trans this.2.2 (child_len hy')⟩
theorem lrows_len {n : Nat} {t : Tr n} (ho : Ok n t) (p : List Str) : (lrows n p t).length = (rows n p t).length := by
  rw [← rows_srt n t ho p, rows_of_srt n t ho p, List.length_map]
end Tr
/-! sorted(texts) -/
theorem ltCps_ltS (x y : Str) : PySem.Spec.ltCps x.cps.toList y.cps.toList = ltS x y := PyProof.Rows.ltCps_eq _ _
theorem rising_all : ∀ (r : List Str) (p : Str), PyProof.Rows.risingS p r = true → (p :: r).Pairwise fun a b => ltS b a = false
  | [], p, _ => List.pairwise_singleton _ _
  | x :: r, p, h => by
    have h' : (!PySem.Spec.ltCps x.cps.toList p.cps.toList && PyProof.Rows.risingS x r) = true := h
    rw [Bool.and_eq_true, Bool.not_eq_true', ltCps_ltS] at h'
    have ih := rising_all r x h'.2
    refine List.pairwise_cons.mpr ⟨fun y hy => ?_, ih⟩
    rcases List.mem_cons.mp hy with e | hy
    · rw [e]; exact h'.1
    · exact (swo_ltS (id : Str → Str)).tr p x y h'.1 ((List.pairwise_cons.mp ih).1 y hy)
theorem sortedS_is {α : Type} {es : List (Str × α)} (hd : DiffBy (·.1) es) {ys : List Str} (p : ys.Perm (es.map (·.1))) (h : PyProof.Rows.sortedS ys = true) : ys = (srtBy ltS (·.1) es).map fun e => e.1 := by
  have s : ys.Pairwise fun a b => ltS b a = false := by
    cases ys with
    | nil => exact List.Pairwise.nil
    | cons x r => exact rising_all r x h
  have nd : ys.Nodup := p.nodup_iff.mpr hd.nd
  have up : UpBy ltS id ys := List.Pairwise.imp₂ (fun a b h1 h2 => by
    cases e : ltS a b with
    | true => exact e
    | false => exact absurd (ltS_conn e h1) h2) s nd
  have up2 : UpBy ltS id ((srtBy ltS (·.1) es).map fun e => e.1) := List.pairwise_map.mpr (srtBy_up tot_ltS hd)
  exact up_uniq tot_ltS (p.trans ((srtBy_perm es).map _).symm) up up2
/-- a row of places in the heap; the items within G -/
def MkRow (K : PySem.W.Frag) (G H : Hp) (v : V) (r : Row) : Prop := ∃ a c x, v = .ref a ∧ H a = some (.tup [.ref c, x]) ∧ H c = some (.tup (r.pl.map V.str)) ∧ Dp K G x (Tr.dat r.k r.t)
def MkRows (K : PySem.W.Frag) (G H : Hp) : List V → List Row → Prop
  | [], [] => True
  | v :: vs, r :: rs => MkRow K G H v r ∧ MkRows K G H vs rs
  | _, _ => False
section
variable {K : PySem.W.Frag} {G H H' : Hp}
theorem MkRows.len : ∀ {vs : List V} {rs : List Row}, MkRows K G H vs rs → vs.length = rs.length
  | [], [], _ => rfl
  | [], _ :: _, h => h.elim
  | _ :: _, [], h => h.elim
  | v :: vs, r :: rs, h => by rw [List.length_cons, List.length_cons, MkRows.len h.2]
theorem MkRows.app : ∀ {vs ws : List V} {rs qs : List Row}, MkRows K G H vs rs → MkRows K G H ws qs → MkRows K G H (vs ++ ws) (rs ++ qs)
  | [], _, [], _, _, b => b
  | [], _, _ :: _, _, h, _ => h.elim
  | _ :: _, _, [], _, h, _ => h.elim
  | v :: vs, _, r :: rs, _, h, b => ⟨h.1, MkRows.app h.2 b⟩
theorem MkRow.keep {v : V} {r : Row} (h : MkRow K G H v r) (k : ∀ b xs, H b = some (.tup xs) → H' b = some (.tup xs)) : MkRow K G H' v r := by
  obtain ⟨a, c, x, e, h1, h2, h3⟩ := h
  exact ⟨a, c, x, e, k _ _ h1, k _ _ h2, h3⟩
theorem MkRows.keep : ∀ {vs : List V} {rs : List Row}, MkRows K G H vs rs → (∀ b xs, H b = some (.tup xs) → H' b = some (.tup xs)) → MkRows K G H' vs rs
  | [], [], _, _ => trivial
  | [], _ :: _, h, _ => h.elim
  | _ :: _, [], h, _ => h.elim
  | v :: vs, r :: rs, h, k => ⟨h.1.keep k, MkRows.keep h.2 k⟩
theorem MkRows.grow {vs : List V} {rs : List Row} (h : MkRows K G H vs rs) (g : But (fun _ => False) H H') : MkRows K G H' vs rs := h.keep fun b xs e => g b _ e id
theorem MkRows.at : ∀ {vs : List V} {rs : List Row} {i : Nat} {v : V}, MkRows K G H vs rs → vs[i]? = some v → ∃ r, rs[i]? = some r ∧ MkRow K G H v r
  | [], [], i, v, _, e => by simp at e
  | [], _ :: _, _, _, h, _ => h.elim
  | _ :: _, [], _, _, h, _ => h.elim
  | x :: vs, r :: rs, 0, v, h, e => by
    have : x = v := by simpa using e
    subst this
    exact ⟨r, rfl, h.1⟩
  | x :: vs, r :: rs, i + 1, v, h, e => MkRows.at (i := i) h.2 (by simpa using e)
end
/-- the places of an item -/
def spMarks (K : PySem.W.Frag) (n : Nat) : Sp := fun vs H Q _ => ∃ (v : V) (t : Tr n) (pl : Addr) (p : List Str) (G : Hp), vs = [v, .ref pl] ∧ Part G H ∧ Dp K G v (Tr.dat n t) ∧ Tr.Ok n t ∧ (Tr.rows n [] t).length ≤ 1000 ∧ H pl = some (.tup (p.map V.str)) ∧ p.length + n ≤ 10 ∧
  ∀ (q : Addr) (vs : List V) (H' : Hp), H q = none → H' q = some (.lst vs) → MkRows K G H' vs (Tr.lrows n p t) → But (fun _ => False) H H' → Q (.ref q) H'
/-- the keys of an item, ascending -/
def spKeysT (K : PySem.W.Frag) : Sp := fun vs H Q _ => ∃ (v : V) (n : Nat) (t : Tr n), vs = [v] ∧ Dp K H v (Tr.dat n t) ∧ Tr.Ok n t ∧ Tr.Few n t ∧
  ∀ (q : Addr) (H' : Hp), H q = none → H' q = some (.tup ((Tr.keys n (Tr.srt n t)).map V.str)) → But (fun _ => False) H H' → Q (.ref q) H'
end L2.G42

set_option Elab.async false
set_option linter.all false
set_option maxRecDepth 100000
set_option maxHeartbeats 4000000
namespace PySem
open Sem (wp)
section
variable {M : Model} {A : Around} {R : GenEnd} {Y : Protocol} {n : Nat} {s₀ : Shared} {c : Code} {fs : List Frame} {s : Shared} {env : Env}
  {K : Flow → Sem Fin} {H : Value → Sem Fin} {gd : Bool → Bool} {lv : List Value → List Value}
theorem seg_For {target iter : Expr} {body orelse : List Stmt} {pos : Pos} (hs : ∀ x, foldedSetIterable iter env x = pure x)
    (h : wpAny M (A.over c fs) (eval iter env) (fun x s1 => wpAny M (A.over c fs) (pyIter x) (fun it s2 => ∀ p, Seg M A R Y n s₀ (.forLoop target it body orelse env) (M.den (.forLoop target it body orelse env))
      (.ret (fun r => ((match r with | .ok f => (.pure f : Sem Flow) | .error e => .raise e).onRaise fun (x : Value) => do
        if (← field x 1) == Value.none then unsupported "frame.own-activation:exception-without-traceback"
        setFlight x env.frame).wrap K H gd lv) none (gd false) (lv []) c p [] :: fs) s2) (fun x s' => Seg M A R Y n s₀ c (H x) fs s') s1) (fun x s' => Seg M A R Y n s₀ c (H x) fs s') s) :
    Seg M A R Y n s₀ c ((exec (.For target iter body orelse pos) env).wrap K H gd lv) fs s := by
  rw [exec_For]
  refine seg_at ?_
  show Seg _ _ _ _ _ _ _ ((eval iter env >>= fun v => foldedSetIterable iter env v >>= fun x => standAt iter.pos >>= fun _ => holding [x] (pyIter x) >>= fun it => runOwn (.forLoop target it body orelse env) env).wrap K H gd lv) fs s
  rw [Sem.bind_eq_wrap', Sem.wrap_wrap]
  refine seg_wrap (wpAny_mono h (fun x s1 h1 => ?_) fun _ _ e => e)
  rw [hs x]
  refine seg_at ?_
  show Seg _ _ _ _ _ _ _ ((holding [x] (pyIter x) >>= fun it => runOwn (.forLoop target it body orelse env) env).wrap K H gd lv) fs s1
  rw [Sem.bind_eq_wrap', Sem.wrap_wrap]
  refine seg_wrap (wpAny_holding (wpAny_mono h1 (fun it s2 h2 => ?_) fun _ _ e => e))
  exact seg_call h2
end
section
variable {prog : Program} {w : World} {A : Around} {R : GenEnd} {Y : Protocol} {n : Nat} {s₀ : Shared} {fs : List Frame} {s : Shared} {env : Env}
theorem seg_forLoop {target : Expr} {it : Value} {body orelse : List Stmt}
    (h : wpAny (model prog w) (A.over (.forLoop target it body orelse env) fs) (pyNext it) (fun r s1 => match r with
        | none => Seg (model prog w) A R Y n s₀ (.forLoop target it body orelse env) (.pure (.again (.block orelse env))) fs s1
        | some v => wpAny (model prog w) (A.over (.forLoop target it body orelse env) fs) (letOwnedTupleGo target it v) (fun _ s2 => wpAny (model prog w) (A.over (.forLoop target it body orelse env) fs) (assign target env v) (fun _ s3 =>
          Seg (model prog w) A R Y n s₀ (.forLoop target it body orelse env) ((execs body env).wrap (fun f => match f with
            | .next | .cont => .pure (.again (.forLoop target it body orelse env))
            | .brk => .pure (.done .next)
            | .ret v => .pure (.done (.ret v))) (fun e => (do noteFrame e env; theTreesLotGoes e : Sem Unit).wrap (fun _ => .raise e) .raise id id) id id) fs s3)
          (fun x s' => Seg (model prog w) A R Y n s₀ (.forLoop target it body orelse env) ((do noteFrame x env; theTreesLotGoes x : Sem Unit).wrap (fun _ => .raise x) .raise id id) fs s') s2)
          (fun x s' => Seg (model prog w) A R Y n s₀ (.forLoop target it body orelse env) ((do noteFrame x env; theTreesLotGoes x : Sem Unit).wrap (fun _ => .raise x) .raise id id) fs s') s1)
      (fun x s' => Seg (model prog w) A R Y n s₀ (.forLoop target it body orelse env) ((do noteFrame x env; theTreesLotGoes x : Sem Unit).wrap (fun _ => .raise x) .raise id id) fs s') s) :
    Seg (model prog w) A R Y n s₀ (.forLoop target it body orelse env) ((model prog w).den (.forLoop target it body orelse env)) fs s := by
  show Seg _ A R Y n s₀ _ ((forTurn target it body orelse env).onRaise (fun x => do noteFrame x env; theTreesLotGoes x)) fs s
  have ee : ∀ x s', Seg (model prog w) A R Y n s₀ (.forLoop target it body orelse env) ((do noteFrame x env; theTreesLotGoes x : Sem Unit).wrap (fun _ => .raise x) .raise id id) fs s' → Seg (model prog w) A R Y n s₀ (.forLoop target it body orelse env) (((do noteFrame x env; theTreesLotGoes x : Sem Unit)).bind fun _ => .raise x) fs s' := fun x s' hx => by
    rw [Sem.bind_eq_wrap]; exact hx
  unfold forTurn
  rw [Sem.onRaise_eq_wrap]
  refine seg_at ?_
  show Seg _ _ _ _ _ _ _ (((pyNext it).onRaise (fun _ => standAt { target.pos with line := 0 }) >>= _).wrap _ _ _ _) _ _
  rw [Sem.bind_eq_wrap', Sem.wrap_wrap]
  refine seg_wrap (wpAny_onRaise (wpAny_mono h (fun r s1 h1 => ?_) fun x s' hx => wpAny_standAt (ee x s' hx)))
  cases r with
  | none => exact h1
  | some v =>
    show Seg _ _ _ _ _ _ _ ((letOwnedTupleGo target it v >>= fun _ => assign target env v >>= fun _ => execs body env >>= _).wrap _ _ _ _) _ _
    rw [Sem.bind_eq_wrap', Sem.wrap_wrap]
    refine seg_wrap (wpAny_mono h1 (fun _ s2 h2 => ?_) fun x s' hx => ee x s' hx)
    rw [Sem.bind_eq_wrap', Sem.wrap_wrap]
    refine seg_wrap (wpAny_mono h2 (fun _ s3 h3 => ?_) fun x s' hx => ee x s' hx)
    rw [Sem.bind_eq_wrap', Sem.wrap_wrap]
    rw [Sem.wrap_congr (execs body env) _ _ (K' := fun f => match f with
          | .next | .cont => .pure (.again (.forLoop target it body orelse env))
          | .brk => .pure (.done .next)
          | .ret v => .pure (.done (.ret v))) (H' := (fun e => (do noteFrame e env; theTreesLotGoes e : Sem Unit).wrap (fun _ => .raise e) .raise id id))
      (fun f => by cases f <;> rfl)
      (fun e => by first | exact Sem.bind_eq_wrap _ _ | (show (do noteFrame e env; theTreesLotGoes e : Sem Unit).bind (fun _ => .raise e) = _; rw [Sem.bind_eq_wrap]))]
    exact h3
end
end PySem
namespace L2
open PySem PySem.Spec PyProof.Rows GenW
section
variable {X : Cx} {st : Stmt} {rest : List Stmt}
def tGIf (c : TT) (t1 t2 : TGn) : TGn := fun D ys σ H => c σ H fun b H1 => if b = true then t1 D ys σ H1 else t2 D ys σ H1
theorem gs_if {test : Expr} {b1 b2 : List Stmt} {pos : Pos} {tc : TT} {t1 t2 : TGn} (hc : PT X test tc) (h1 : GSs X b1 t1) (h2 : GSs X b2 t2) : GS X (.If test b1 b2 pos) (tGIf tc t1 t2) := by
  refine ⟨fun A S ip R n ys s₀ c fs K J gd lv s σ H D g hn k hI ht => ?_⟩
  obtain ⟨acc, cc, r, I⟩ := hI
  refine seg_at ?_
  show Seg _ _ _ _ _ _ _ ((isTrue test X.env (eval test X.env) >>= fun b => if b = true then execs b1 X.env else execs b2 X.env).wrap K J gd lv) fs s
  rw [Sem.bind_eq_wrap', Sem.wrap_wrap]
  refine seg_wrap ?_
  rw [g.over]
  refine wpAny_mono (hc.run _ s σ H _ I ht) (fun b s' hb => ?_) fun x s' hx => k.exc n s₀ x s' hx
  obtain ⟨H2, I2, q2⟩ := hb
  cases b with
  | true => exact h1.run A S ip R n ys s₀ c fs K J gd lv s' σ H2 D g hn k ⟨acc, cc, r, I2⟩ q2
  | false => exact h2.run A S ip R n ys s₀ c fs K J gd lv s' σ H2 D g hn k ⟨acc, cc, r, I2⟩ q2
/-- the statement runs while the thing at d is locked -/
def tGLock (t : TGn) : TGn := fun D ys σ H => ∃ d u, H d = some u ∧ Mut (some u) ∧ ∀ od, t ⟨fun ys' σ' H' => H' d = some (.frz od u) ∧ D.nx ys' σ' (upd H' d u), fun ys' v H' => H' d = some (.frz od u) ∧ D.rt ys' v (upd H' d u), fun ys' σ' H' => H' d = some (.frz od u) ∧ D.bk ys' σ' (upd H' d u), fun ys' σ' H' => H' d = some (.frz od u) ∧ D.ct ys' σ' (upd H' d u)⟩ ys σ (upd H d (.frz od u))
theorem gs_lock {t : TGn} (h : GS X st t) : GS X st (tGLock t) := by
  refine ⟨fun A S ip R n ys s₀ c fs K J gd lv s σ H D g hn k hI ht => ?_⟩
  obtain ⟨acc, cc, r, I⟩ := hI
  obtain ⟨d, u, hd, mu, hw⟩ := ht
  obtain ⟨od, I1⟩ := I.lock hd mu
  have nf := I.nofrz hd mu
  refine h.run A S ip R n ys s₀ c fs K J gd lv s σ _ _ g hn ⟨fun n' ys' s₀' s' f hn' hs => k.ok n' ys' s₀' s' f hn' ?_, k.exc⟩ ⟨acc, cc, r, I1⟩ (hw od)
  cases f with
  | next => obtain ⟨σ', H', ⟨a2, c2, r2, I2⟩, e, q⟩ := hs; exact ⟨σ', _, ⟨a2, c2, r2, I2.unlock e nf⟩, q⟩
  | brk => obtain ⟨σ', H', ⟨a2, c2, r2, I2⟩, e, q⟩ := hs; exact ⟨σ', _, ⟨a2, c2, r2, I2.unlock e nf⟩, q⟩
  | cont => obtain ⟨σ', H', ⟨a2, c2, r2, I2⟩, e, q⟩ := hs; exact ⟨σ', _, ⟨a2, c2, r2, I2.unlock e nf⟩, q⟩
  | ret v => obtain ⟨x, σ', H', ⟨a2, c2, r2, I2⟩, rv, e, q⟩ := hs; exact ⟨x, σ', _, ⟨a2, c2, r2, I2.unlock e nf⟩, rv, q⟩
def tGFor (wi : TI) (g : TG) (tb : TGn) : TGn := fun D ys σ H => wi σ H fun J H1 => ∃ W : Nat → Nat → List V → St → Hp → Prop, (∃ m, W 0 m ys σ H1) ∧ ∀ i m ys σ H, W i m ys σ H →
  (J.stop i H ∧ D.nx ys σ H) ∨ (J.go i H ∧ ∃ N : List V → St → Hp → Prop, (∀ ys' σ' H', N ys' σ' H' → ∃ m', m' < m ∧ W (i + 1) m' ys' σ' H') ∧ ∀ x H', J.yld i H x H' → g x σ H' fun σ2 H2 => tb { D with nx := N, ct := N, bk := D.nx } ys σ2 H2)
theorem gs_for {tg iter : Expr} {body : List Stmt} {wi : TI} {g : TG} {tb : TGn} {pos : Pos} (hp : PassesOwn (model X.prog X.w) X.A X.env X.xe) (hc : X.calm = true) (hi : PI X tg iter wi) (hg : PG X tg g) (hb : GSs X body tb)
    (hs : ∀ x, foldedSetIterable iter X.env x = pure x := by intro _; rfl) : GS X (.For tg iter body [] pos) (tGFor wi g tb) := by
  refine ⟨fun A S ip R n ys s₀ c fs K J gd lv s σ H D gc hn k hI ht => ?_⟩
  obtain ⟨acc, cc, r, I⟩ := hI
  refine seg_For hs ?_
  rw [gc.over]
  refine wpAny_mono (hi.run _ s σ H _ I ht) (fun v s1 h1 => wpAny_mono h1 (fun itv s2 h2 p => ?_) fun x s' hx => k.exc n s₀ x s' hx) fun x s' hx => k.exc n s₀ x s' hx
  obtain ⟨it, fp, tn, Jt, H2, e, I2, T, st2, f2, W, ⟨m0, w0⟩, turn⟩ := h2
  subst e
  have stat : ∀ {H' : Hp} {acc' : Array Value} {c' : Nat}, (∀ b ∈ fp, H' b = none) → ∀ b ∈ fp, FpOk X ((S, lstObj acc' c') :: ip) H' b := fun {H' acc' c'} hn b hb => by
    obtain ⟨_, q1, q2, q3, q4, q5⟩ := f2 b hb
    refine ⟨hn b hb, q1, q2, q3, q4, fun p hp => ?_⟩
    rcases List.mem_append.mp hp with h | h
    · exact q5 p (List.mem_append_left _ h)
    · rcases List.mem_cons.mp h with h | h
      · rw [h]; exact q5 (S, lstObj acc cc) (List.mem_append_right _ List.mem_cons_self)
      · exact q5 p (List.mem_append_right _ (List.mem_cons_of_mem _ h))
  have nS : ∀ b ∈ fp, b ≠ S := fun b hb e => (f2 b hb).2.2.2.2.2 (S, lstObj acc cc) (List.mem_append_right _ List.mem_cons_self) e.symm
  have gl := fun (kk : Result → Sem PySem.Fin) => gc_loop (k := kk) (c' := .forLoop tg (.ref it) body [] X.env) (l := lv []) (kp := []) (p := p) gc rfl rfl
  have loop : ∀ (m i n : Nat) (ys : List V) (s₀ s : Shared) (σ : St) (H : Hp), n + ys.length = sizeLine → W i m ys σ H → GI X S ip ys σ H s → tn i s.heap → (∀ b ∈ fp, H b = none) →
      Seg (model X.prog X.w) A R (GY X S) n s₀ (.forLoop tg (.ref it) body [] X.env) ((model X.prog X.w).den (.forLoop tg (.ref it) body [] X.env))
        (.ret (fun r => ((match r with | .ok f => (.pure f : Sem Flow) | .error e => .raise e).onRaise (cameBack X.env)).wrap K J gd lv) none (gd false) (lv []) c p [] :: fs) s := by
    intro m
    induction m using Nat.strongRecOn with
    | ind m ih =>
      intro i n ys s₀ s σ H hn w hI st3 fr3
      have ee : ∀ (n : Nat) (s₀ : Shared) (x : Value) (s' : Shared), X.xe x s' → Seg (model X.prog X.w) A R (GY X S) n s₀ (.forLoop tg (.ref it) body [] X.env)
          ((do noteFrame x X.env; theTreesLotGoes x : Sem Unit).wrap (fun _ => .raise x) .raise id id)
          (.ret (fun r => ((match r with | .ok f => (.pure f : Sem Flow) | .error e => .raise e).onRaise (cameBack X.env)).wrap K J gd lv) none (gd false) (lv []) c p [] :: fs) s' := fun n s₀ x s' hx => by
        refine seg_wrap ?_
        rw [(gl _).over]
        refine wpAny_bind (wpAny_mono (hp x s' hx) (fun _ s'' hcb => wpAny_theTreesLotGoes ?_) fun y s'' hcb => ?_)
        · exact seg_leaf (.error x) (seg_cameBack gc k hcb)
        · exact seg_leaf (.error y) (seg_cameBack gc k hcb)
      refine seg_forLoop ?_
      rw [(gl _).over]
      obtain ⟨acc, cc, r, I⟩ := hI
      rcases turn i m ys σ H w with ⟨stop, qn⟩ | ⟨go, N, hN, step⟩
      · refine wpAny_mono (T.done X rfl rfl rfl hc i _ s σ H X.xe I (stat fr3) st3 stop) (fun rr s4 hq => ?_) fun x s' hx => ee n s₀ x s' hx
        obtain ⟨hr, I4⟩ := hq
        subst hr
        refine seg_again rfl ?_
        exact seg_leaf (.ok .next) (k.ok n ys s₀ s4 .next hn ⟨σ, H, ⟨acc, cc, r, I4⟩, qn⟩)
      · refine wpAny_mono (T.item X rfl rfl rfl hc i _ s σ H X.xe I (stat fr3) st3 go) (fun rr s4 hq => ?_) fun x s' hx => ee n s₀ x s' hx
        obtain ⟨u, hr, h4⟩ := hq
        subst hr
        refine wpAny_mono h4 (fun _ s5 hq => ?_) fun x s' hx => ee n s₀ x s' hx
        obtain ⟨x, H5, I5, r5, y5, st5, fr5⟩ := hq
        have I5' := I5.pinned (stat fr5) (T.obj _ _ st5)
        refine wpAny_mono (hg.run _ s5 σ H5 x u _ I5' r5 (step x H5 y5)) (fun _ s6 hq => ?_) fun x s' hx => ee n s₀ x s' hx
        obtain ⟨σ6, H6, I6, q6⟩ := hq
        have gl2 := gl (fun r => ((match r with | .ok f => (.pure f : Sem Flow) | .error e => .raise e).onRaise (cameBack X.env)).wrap K J gd lv)
        refine hb.run A S (ip ++ pinsAt fp s5.heap) R n ys s₀ _ _ _ _ id id s6 σ6 H6 { D with nx := N, ct := N, bk := D.nx } { gl2 with ip := fun q hq => ?_ } hn ⟨fun n' ys' s₀' s7 f hn' hs => ?_, fun n' s₀' x s3 hx => ee n' s₀' x s3 hx⟩ ⟨acc, cc, r, I6⟩ q6
        · rcases List.mem_append.mp hq with h | h
          · exact gc.ip q h
          · exact nS _ (of_pinsAt h).1
        · have again : ∀ {σ7 : St} {H7 : Hp}, GI X S (ip ++ pinsAt fp s5.heap) ys' σ7 H7 s7 → N ys' σ7 H7 → Seg (model X.prog X.w) A R (GY X S) n' s₀' (.forLoop tg (.ref it) body [] X.env) (.pure (.again (.forLoop tg (.ref it) body [] X.env)))
              (.ret (fun r => ((match r with | .ok f => (.pure f : Sem Flow) | .error e => .raise e).onRaise (cameBack X.env)).wrap K J gd lv) none (gd false) (lv []) c p [] :: fs) s7 := fun {σ7 H7} I7 n7 => by
            obtain ⟨m', hm, w7⟩ := hN ys' σ7 H7 n7
            obtain ⟨a7, c7, r7, I7⟩ := I7
            have I7' : Inv X (((S, lstObj a7 c7) :: ip) ++ pinsAt fp s5.heap) σ7 H7 s7 := I7
            refine seg_again rfl (ih m' hm (i + 1) n' ys' s₀' s7 σ7 H7 hn' w7 ⟨a7, c7, r7, I7'.unpinned⟩ (T.keep _ _ _ st5 fun b hb o e => (I7'.pin (b, o) (List.mem_append_right _ (List.mem_append_right _ (mem_pinsAt hb e)))).1) fun b hb => ?_)
            obtain ⟨o, e, d⟩ := T.obj _ _ st5 b hb
            exact (I7'.pin (b, o) (List.mem_append_right _ (List.mem_append_right _ (mem_pinsAt hb e)))).2.1
          have un : ∀ {σ7 : St} {H7 : Hp}, GI X S (ip ++ pinsAt fp s5.heap) ys' σ7 H7 s7 → GI X S ip ys' σ7 H7 s7 := fun {σ7 H7} I7 => by
            obtain ⟨a7, c7, r7, I7⟩ := I7
            have I7' : Inv X (((S, lstObj a7 c7) :: ip) ++ pinsAt fp s5.heap) σ7 H7 s7 := I7
            exact ⟨a7, c7, r7, I7'.unpinned⟩
          cases f with
          | next => obtain ⟨σ7, H7, I7, n7⟩ := hs; exact again I7 n7
          | cont => obtain ⟨σ7, H7, I7, n7⟩ := hs; exact again I7 n7
          | brk => obtain ⟨σ7, H7, I7, q7⟩ := hs; exact seg_leaf (.ok .next) (k.ok n' ys' s₀' s7 .next hn' ⟨σ7, H7, un I7, q7⟩)
          | ret v => obtain ⟨x7, σ7, H7, I7, r7, q7⟩ := hs; exact seg_leaf (.ok (.ret v)) (k.ok n' ys' s₀' s7 (.ret v) hn' ⟨x7, σ7, H7, un I7, r7, q7⟩)
  exact loop m0 0 n ys s₀ s2 σ H2 hn w0 ⟨acc, cc, r, I2⟩ st2 fun b hb => (f2 b hb).1
end
end L2

set_option Elab.async false
set_option linter.all false
set_option maxRecDepth 100000
set_option maxHeartbeats 4000000
namespace L2
open PySem PySem.Spec PyProof.Rows GenW
/-- a for in a generator's body: Pv by the turn, what is out, the slots and the heap -/
theorem for_itG {J : It} {n : Nat} {G : Hp → Prop} {Y : Nat → Hp → V → Hp → Prop} (w : Walk J n G Y) {g : TG} {tb : TGn} {D : GEnds} {ys : List V} {σ : St} {H : Hp} (Pv : Nat → List V → St → Hp → Prop) (h0 : Pv 0 ys σ H) (hG : ∀ i ys σ H, i ≤ n → Pv i ys σ H → G H)
    (hs : ∀ i x ys σ H H', i < n → Pv i ys σ H → Y i H x H' → g x σ H' fun σ2 H2 => tb { D with nx := Pv (i + 1), ct := Pv (i + 1), bk := D.nx } ys σ2 H2) (hd : ∀ ys σ H, Pv n ys σ H → D.nx ys σ H) :
    ∃ W : Nat → Nat → List V → St → Hp → Prop, (∃ m, W 0 m ys σ H) ∧ ∀ i m ys σ H, W i m ys σ H →
      (J.stop i H ∧ D.nx ys σ H) ∨ (J.go i H ∧ ∃ N : List V → St → Hp → Prop, (∀ ys' σ' H', N ys' σ' H' → ∃ m', m' < m ∧ W (i + 1) m' ys' σ' H') ∧ ∀ x H', J.yld i H x H' → g x σ H' fun σ2 H2 => tb { D with nx := N, ct := N, bk := D.nx } ys σ2 H2) := by
  refine ⟨fun i m ys σ H => m = n - i ∧ i ≤ n ∧ Pv i ys σ H, ⟨n, by simp, Nat.zero_le _, h0⟩, ?_⟩
  rintro i m ys σ H ⟨rfl, hi, p⟩
  have q := hG i ys σ H hi p
  by_cases hlt : i < n
  · exact .inr ⟨w.goes i H hlt q, Pv (i + 1), fun ys' σ' H' p' => ⟨n - (i + 1), by omega, rfl, hlt, p'⟩, fun x H' y => hs i x ys σ H H' hlt p (w.yields i H x H' hlt q y)⟩
  · have e : i = n := by omega
    subst e
    exact .inl ⟨w.stops H q, hd ys σ H p⟩
end L2
namespace L2.G42
open PySem PySem.Spec PyProof.Rows
/-- a generator def, by its body -/
theorem _root_.L2.Fun.gen {P : Program} {w : World} {K : PySem.W.Frag} {mg : Str → Option Value} {base : Heap} {x qual : Str} {st : Stmt} {f : Addr} {fd : FuncData} {N ps : List Str} {k : Nat} {sp : SpG} (F : L2.Fun K x qual st f fd) (S : GScope N ps (defScope st)) (len : ∀ vs H Q E, sp vs H Q E → vs.length = ps.length)
    (hbody : ∀ (cdv : Value) (A : Around) (outer : List Env) (s : Shared) (H : Hp) (vs : List V) (Q : List V → Hp → Prop) (E : XK) (pn : List (Addr × Obj)), Room k (A.deeper (envOfC qual (defScope st) s.heap.objs.size f cdv)) → sp vs H Q E →
      ∃ t, GSs (gcxOf P w K mg base N qual (defScope st) f cdv A outer s H E pn) (defBody st) t ∧ t { nx := fun ys _ H' => Q ys H', rt := fun ys v H' => v = .non ∧ Q ys H' } [] (start N vs) H) : GFn P w K mg base (k + 1) f fd ps sp := by
  obtain ⟨oc, od, kV, doc, pm, an, cdv, ct, osl, rfl, lk, hcd⟩ := F.ex
  exact gfn_of lk hcd S len (hbody cdv)
/-- a generator method -/
structure Gm (P : Program) (w : World) (K : PySem.W.Frag) (mg : Str → Option Value) (base : Heap) (k : Nat) (C : Addr) (m : Str) (sp : SpG) : Prop where
  ex : ∃ (f : Addr) (fd : FuncData) (ps : List Str), Cls K C ∧ Meth K C m f ∧ GFn P w K mg base k f fd ps sp ∧ Binds K fd ps []
/-- list(o.m()) -/
theorem pe_lgm {X : Cx} {k j : Nat} {C : Addr} {m : Str} {sp : SpG} {o : Expr} {ta : TE} {p pos pos' apos : Pos} {pl : Sem Bool} (c : Gm X.prog X.w X.K X.mg X.base k C m sp) (hr : Room j X.A) (hk : k + 3 ≤ j) (he : PE X o ta) (hg : Gl X "list") (hmg : X.mg "list" = none)
    (hst : starEach [.Call (.Attribute o m apos) [] [] pos'] X.env = (false, eval (.Call (.Attribute o m apos) [] [] pos') X.env) :: starEach [] X.env := by rfl)
    (ht : eval (.Call (.Attribute o m apos) [] [] pos') X.env = (do
      let ov ← eval o X.env
      standAt apos.atName
      let (f, first) ← holding [ov] (getMethod ov m pl)
      callWith pos' f first (backTo pos' (starEach [] X.env)) (backToKw pos' (keywordEach [] X.env))) := by rfl) :
    PE X (.Call (.Name "list" p) [.Call (.Attribute o m apos) [] [] pos'] [] pos) (tListG (tMethG C m sp [] E0 ta tNil)) := by
  obtain ⟨f, fd, ps, c1, c2, F, hb⟩ := c.ex
  exact pe_listG (pgen_meth0 he c1 c2 F (hr.mono (by omega)) hb .nil ht) (fun pins σ H s e s' I h => passL pins σ H s e s' I h) (fun _ _ _ h => h.elim) (hr.mono hk) hg hmg boot_list (by decide) (by decide) hst
/-- the tuples of places -/
def PlAt (H : Hp) : List V → List (List Str) → Prop
  | [], [] => True
  | v :: vs, p :: ps => (∃ q, v = .ref q ∧ H q = some (.tup (p.map V.str))) ∧ PlAt H vs ps
  | _, _ => False
theorem PlAt.grow {S : Addr → Prop} {H H' : Hp} (hS : ∀ a, S a → ∀ xs, H a ≠ some (.tup xs)) (g : But S H H') : ∀ {vs : List V} {ps : List (List Str)}, PlAt H vs ps → PlAt H' vs ps
  | [], [], _ => trivial
  | v :: vs, p :: ps, h => let ⟨⟨q, e, e1⟩, h2⟩ := h; ⟨⟨q, e, g q _ e1 fun s => hS q s _ e1⟩, PlAt.grow hS g h2⟩
  | [], _ :: _, h => h.elim
  | _ :: _, [], h => h.elim
theorem PlAt.snoc {H : Hp} {q : Addr} {p : List Str} (hq : H q = some (.tup (p.map V.str))) : ∀ {vs : List V} {ps : List (List Str)}, PlAt H vs ps → PlAt H (vs ++ [.ref q]) (ps ++ [p])
  | [], [], _ => ⟨⟨q, rfl, hq⟩, trivial⟩
  | v :: vs, p' :: ps, h => ⟨h.1, PlAt.snoc hq h.2⟩
  | [], _ :: _, h => h.elim
  | _ :: _, [], h => h.elim
theorem PlAt.len {H : Hp} : ∀ {vs : List V} {ps : List (List Str)}, PlAt H vs ps → vs.length = ps.length
  | [], [], _ => rfl
  | _ :: _, _ :: _, h => congrArg (· + 1) (PlAt.len h.2)
  | [], _ :: _, h => h.elim
  | _ :: _, [], h => h.elim
/-- places, tables, bags: the places of the rows that are wanted -/
def spBPl (BK : Addr) (want : Row → Bool) : SpG := fun vs H Q _ => ∃ (b D : Addr) (n : Nat) (t : Tr n), vs = [.ref b] ∧ BkTr BK H b D n t ∧ ∀ ys : List V, PlAt H ys (((Tr.rows n [] t).filter want).map (·.pl)) → Q ys H
end L2.G42

set_option Elab.async false
set_option linter.all false
set_option maxRecDepth 100000
set_option maxHeartbeats 4000000
namespace L2.G42
open PySem PySem.Spec PyProof.Rows
section
variable {X : Cx} {pins : List (Addr × Obj)} {σ : St} {A : Around} {E : Value → Shared → Prop}
theorem upd_is {H : Hp} {d : Addr} {u : HO} (h : H d = some u) : upd H d u = H := by
  funext b
  by_cases e : b = d
  · rw [e, upd_same, h]
  · rw [upd_ne e]
theorem set_dTA {H : Hp} {s : Shared} {D b : Addr} {kvs : List (List Key × V)} {k : List Key} {z : V} {r : Value} {Q : Unit → Shared → Prop} (hu : A.units + 1 < cLine) (I : Inv X pins σ H s) (eD : H D = some (.dT kvs)) (eb : H b = some (.tup (k.map kV))) (few : kvs.length < sizeLine)
    (rz : RelV z r) (h : ∀ s', Inv X pins σ (upd H D (.dT (putK kvs k z))) s' → Q () s') : wpAny (model X.prog X.w) A (dictSet D (.ref b) r) Q E s := by
  obtain ⟨len, nsys, xs, rel, own⟩ := dt_of I.hok eD
  have l1 : xs.length ≤ sizeLine := by rw [← Paired.length rel]; exact len
  have l2 : (putK kvs k z).length ≤ sizeLine := by have := length_putK kvs k z; omega
  refine wpAny_dictSet_heap (hsz := l1) (show A.units < cLine by omega) (key_of I.hok eb) own fun h' own' same => h _ ?_
  obtain ⟨q, es, ep, q1, q2, q3, q4, _, q5⟩ := own'
  refine d_write I (by rw [eD]; trivial) same ⟨q, q1⟩ ⟨l2, nsys, _, (rel.put k eb rz).keeps fun c ys ec => ?_, q, es, ep, q1, q2, q3, q4, q5⟩
  rw [upd_ne (ne_of ec eD (fun z => nomatch z))]
  exact ec
/-- a pair: its own tuple at p, the key's tuple within -/
def PrAt (H : Hp) (q : Addr × List Key × V) : Prop := ∃ c, H q.1 = some (.tup [.ref c, q.2.2]) ∧ H c = some (.tup (q.2.1.map kV))
def putAllT (acc : List (List Key × V)) (ps : List (Addr × List Key × V)) : List (List Key × V) := ps.foldl (fun a q => putK a q.2.1 q.2.2) acc
theorem upd_loopT {R : Result → Shared → Prop} {S I l : Addr} {items : List V} {res : Value} (hh : A.handled = none) (hu : A.units + 3 < cLine) (hlI : l ≠ I) :
    ∀ (rest : List (Addr × List Key × V)) (i : Nat) (acc : List (List Key × V)) (ix : Int) (t : Tok) (H : Hp) (s : Shared), Inv X pins σ H s → H S = some (.dT acc) → acc.length + rest.length ≤ sizeLine → items.length = i + rest.length → SqL X.K H l items → l ≠ S →
      (∀ (j : Nat) (q : Addr × List Key × V), rest[j]? = some q → items[i + j]? = some (.ref q.1) ∧ PrAt H q) → s.heap.IsListIter I l i → FpOk X pins H I →
      (∀ s', Inv X pins σ (upd H S (.dT (putAllT acc rest))) s' → R (.ok (.ret res)) s') →
      codeAny (model X.prog X.w) A (.builtin "dict.update.loop" ⟨[.ref S, .ref I, .int ix t, res], []⟩) R s
  | [], i, acc, ix, t, H, s, J, hS, hln, hsz, hl, hlS, ht, hit, fp, hR => by
    refine codeAny_builtin ud_entry ?_
    rw [Around.under_plainId ud_plain _]
    show wpAny _ A.in1 (pyNext (.ref I) >>= _) _ _ s
    obtain ⟨its, rv, ⟨o, n, ho, hc, hd, hdat⟩, _⟩ := J.list hl
    have hlen : its.length = i := by rw [← rv.length, hsz]; rfl
    obtain ⟨f0, f1, f2, f3, f4, f5⟩ := fp
    refine wpAny_bind (wpAny_pyNext_list_end (A := A.in1) hh hit ⟨o, ho, hc, n, hdat⟩ (by simp [hlen]) fun h' he => ?_)
    show wpAny _ A.in1 (Builtin.Dict.addKeywords S [] >>= _) _ _ _
    refine wpAny_bind (wpAny_pure (wpAny_pure ?_))
    refine hR _ ?_
    show Inv X pins σ (upd H S (.dT acc)) _
    rw [upd_is hS]
    exact J.turned (t' := s.toks) (fun b o hb e => he b o hb e) f0 f1 f3 f4 f5
  | q :: rest, i, acc, ix, t, H, s, J, hS, hln, hsz, hl, hlS, ht, hit, fp, hR => by
    obtain ⟨hb, c, ep, ec⟩ := ht 0 q rfl
    rw [List.length_cons] at hsz hln
    refine codeAny_builtin ud_entry ?_
    rw [Around.under_plainId ud_plain _]
    show wpAny _ A.in1 (pyNext (.ref I) >>= _) _ _ s
    obtain ⟨its, rv, ⟨o, n, ho, hc, hd, hdat⟩, _⟩ := J.list hl
    have hlen : its.length = i + (rest.length + 1) := by rw [← rv.length, hsz]
    obtain ⟨f0, f1, f2, f3, f4, f5⟩ := id fp
    have hx : its[i]? = some (.ref q.1) := by
      obtain ⟨u, e1, e2⟩ := rv.get hb
      cases e2
      exact e1
    refine wpAny_bind (wpAny_pyNext_list_item (x := .ref q.1) hit ⟨o, ho, hc, n, hdat⟩ (by simpa using hx) fun h1 hit1 hs1 => ?_)
    have J1 : Inv X pins σ H { s with heap := h1 } := J.turned (t' := s.toks) (fun b o hb e => hs1.extBut b o hb e) f0 f1 f3 f4 f5
    obtain ⟨it2, rv2, ⟨o2, ho2, hc2, n2, hd2⟩, _⟩ := J1.tuple (SqT.of (K := X.K) ep)
    obtain ⟨u, y, ei, ru, ry⟩ := vals2 rv2
    subst ei
    obtain rfl : u = Value.ref c := ru
    show wpAny _ A.in1 (holding [Value.ref q.1] _ >>= _) _ _ _
    refine wpAny_bind (wpAny_holding ?_)
    refine wpAny_bind (wpAny_tryCatch ?_)
    unfold Builtin.Dict.pairItems
    refine wpAny_bind (wpAny_typeOf (T := "tuple") ⟨o2, ho2, hc2⟩ ?_)
    rw [if_pos (by first | decide | rfl | simp)]
    refine wpAny_bind (wpAny_seqItems ho2 hd2 (wpAny_pure ?_))
    show wpAny _ A.in1 (holding [Value.ref c, y] (dictSet S (.ref c) y)) _ _ _
    obtain ⟨oi, ei1, ei2, ei3⟩ := id hit1
    have J2 := J1.pinned (fp := [I]) (fun b hb => by rw [List.mem_singleton.mp hb]; exact fp) (fun b hb => by
      rw [List.mem_singleton.mp hb]
      exact ⟨oi, ei1, fun v e => by rw [ei3] at e; cases e⟩)
    refine wpAny_holding (set_dTA (show A.in1.units + 1 < cLine by show A.units + 1 + 1 < cLine; omega) J2 hS ec (by omega) ry fun s3 J3 => ?_)
    have hiS : I ≠ S := fun e => by rw [e, hS] at f0; cases f0
    have ei4 : s3.heap.get? I = some oi := (J3.pin (I, oi) (List.mem_append_right _ (List.mem_append_right _ (mem_pinsAt (List.mem_singleton.mpr rfl) ei1)))).1
    have gg : ∀ a xs, H a = some (.tup xs) → (upd H S (.dT (putK acc q.2.1 q.2.2))) a = some (.tup xs) := fun a xs e => by
      rw [upd_ne (ne_of e hS (fun z => nomatch z))]; exact e
    refine wpAny_pure ⟨plainId_quiet ud_plain _, upd_loopT (items := items) hh hu hlI rest (i + 1) (putK acc q.2.1 q.2.2) (ix + 1) 0 (upd H S (.dT (putK acc q.2.1 q.2.2))) s3 J3.unpinned upd_same ?_ (by omega) ?_ hlS (fun j q' e => ?_) ⟨oi, ei4, ei2, ei3⟩ ⟨(upd_ne hiS).trans f0, f1, f2, f3, f4, f5⟩ fun s' J' => ?_⟩
    · have z := length_putK acc q.2.1 q.2.2
      omega
    · rcases hl with hl | hl
      · refine .inl ?_
        rcases hl with hl | ⟨o', hl⟩
        · exact .inl ((upd_ne hlS).trans hl)
        · exact .inr ⟨o', (upd_ne hlS).trans hl⟩
      · exact .inr hl
    · obtain ⟨hb', c', ep', ec'⟩ := ht (j + 1) q' (by simpa using e)
      refine ⟨?_, c', gg _ _ ep', gg _ _ ec'⟩
      rw [show i + 1 + j = i + (j + 1) by omega]
      exact hb'
    · rw [upd_twice] at J'
      exact hR s' J'
/-- dict(xs) of a list of pairs whose keys are tuples -/
def rDictT (K : PySem.W.Frag) : List V → Hp → VK → Prop := fun xs H Q => ∃ (a : Addr) (ps : List (Addr × List Key × V)), xs = [.ref a] ∧ SqL K H a (ps.map fun q => V.ref q.1) ∧ (∀ q ∈ ps, PrAt H q) ∧ ∀ p, H p = none → Q (.ref p) (upd H p (.dT (putAllT [] ps)))
theorem cr_dictT {X : Cx} {K : PySem.W.Frag} (hK : X.K = K) (hcalm : X.calm = true) (hu : X.A.units + 64 < cLine) : CallR X (.type "dict") (rDictT K) := by
  subst hK
  intro pins s σ H xs us Q I r q
  obtain ⟨a, ps, ex, hq, hp, q⟩ := q
  subst ex
  obtain ⟨u, eu, rx⟩ := vals1 r
  subst eu
  cases rx
  obtain ⟨its, rv, ⟨ol, n, hl, hc, hd, hdat⟩, hz⟩ := I.list hq
  rw [List.length_map] at hz
  have hh := I.ok.hd hcalm
  refine callType_codes (Q₁ := fun obj s₁ => obj = .ref s.heap.objs.size ∧ s₁ = { s with heap := s.heap.push { cls := .type "dict", data := .dict #[] } }) PySem.F.kt_called_dict (PySem.F.kt_typeCall_dict_1 _) PySem.F.entry_dict_init (kt_code_dict_new _ ⟨rfl, rfl⟩) ?_
  rintro obj s₁ ⟨rfl, rfl⟩
  have hnew : (s.heap.push { cls := .type "dict", data := .dict #[] }).DictOf (mixKind X.prog X.w) s.heap.objs.size [] := Heap.DictOf.new s.heap
  have I1 : Inv X pins σ (upd H s.heap.objs.size (.dT [])) { s with heap := s.heap.push { cls := .type "dict", data := .dict #[] } } := I.laid (t' := s.toks) (fun _ _ e => Heap.get?_push_of_some _ e) (Nat.le_refl _) (dt_empty s.heap I.big)
  have k0 : ∀ b o, s.heap.get? b = some o → (s.heap.push { cls := .type "dict", data := .dict #[] }).get? b = some o := fun b o e => Heap.get?_push_of_some _ e
  refine ⟨hnew.typeIs, PySem.F.args_dict_init_2 _ _, ?_⟩
  unfold Builtin.«dict.__init__»
  refine wpAny_bind ?_
  unfold Builtin.Dict.selfAndRest
  refine wpAny_bind (wpAny_notOrdered_dict hnew.typeIs ?_)
  show wpAny _ _ (pure (s.heap.objs.size, [Value.ref a])) _ _ _
  refine wpAny_pure ?_
  show wpAny _ _ (Builtin.Dict.updateFrom "dict.__init__" s.heap.objs.size (.ref a) [] .none) _ _ _
  unfold Builtin.Dict.updateFrom
  refine wpAny_bind (wpAny_typeOf (T := "list") ⟨ol, k0 _ _ hl, hc⟩ ?_)
  rw [if_pos (by first | decide | rfl | simp)]
  refine wpAny_bind (miss_list (k0 _ _ hl) hc hdat hd hh fun h1 tk1 hk1 => ?_)
  rw [if_pos (show (none : Option Value).isNone = true from rfl)]
  refine wpAny_bind (wpAny_rule ?_)
  have hl1 : h1.IsList a its.toArray := ⟨ol, hk1 _ _ (k0 _ _ hl), hc, n, hdat⟩
  refine wpAny_bind (wpAny_pyIter_list hl1 ?_)
  have I2 : Inv X pins σ (upd H s.heap.objs.size (.dT [])) { s with heap := h1, toks := tk1 } := I1.kept (t' := tk1) hk1
  have I3 : Inv X pins σ (upd H s.heap.objs.size (.dT [])) { s with heap := h1.push { cls := .type "list_iterator", data := .fields #[.ref a, .int 0 0] }, toks := tk1 } := I2.kept (t' := tk1) fun b o e => Heap.get?_push_of_some _ e
  have hS0 : H s.heap.objs.size = none := I.hok.fresh (Nat.le_refl _)
  have hlt : a < s.heap.objs.size := Heap.lt_size hl
  have hS1 : s.heap.objs.size < h1.objs.size := by
    have e : (s.heap.push { cls := .type "dict", data := .dict #[] }).get? s.heap.objs.size = some { cls := .type "dict", data := .dict #[] } := Heap.get?_push_size _ rfl
    exact Heap.lt_size (hk1 _ _ e)
  have fp : FpOk X pins (upd H s.heap.objs.size (.dT [])) h1.objs.size := I2.fpOk (Nat.le_refl _) (I2.hok.fresh (Nat.le_refl _))
  have naS : a ≠ s.heap.objs.size := Nat.ne_of_lt hlt
  have key := upd_loopT (X := X) (pins := pins) (σ := σ) (A := X.A.in1) (R := wants (fun r s₂ => r = .none ∧ EP X pins σ Q (.ref s.heap.objs.size) s₂) X.xe) (S := s.heap.objs.size) (I := h1.objs.size) (l := a) (items := ps.map fun q => V.ref q.1) (res := Value.none) hh (show X.A.units + 1 + 3 < cLine by omega)
    (Nat.ne_of_lt (Nat.lt_trans hlt hS1)) ps 0 [] 0 0 (upd H s.heap.objs.size (.dT [])) { s with heap := h1.push { cls := .type "list_iterator", data := .fields #[.ref a, .int 0 0] }, toks := tk1 } I3 upd_same (by rw [List.length_nil, Nat.zero_add]; exact hz) (by rw [List.length_map, Nat.zero_add])
    (by
      rcases hq with hl | hl
      · refine .inl ?_
        rcases hl with hl | ⟨o', hl⟩
        · exact .inl ((upd_ne naS).trans hl)
        · exact .inr ⟨o', (upd_ne naS).trans hl⟩
      · exact .inr hl) naS
    (fun j q' e => by
      obtain ⟨c, e1, e2⟩ := hp q' (List.mem_of_getElem? e)
      exact ⟨by rw [Nat.zero_add, List.getElem?_map, e]; rfl, c, (upd_ne (ne_of_none e1 hS0)).trans e1, (upd_ne (ne_of_none e2 hS0)).trans e2⟩)
    ⟨_, Heap.get?_push_size _ rfl, rfl, rfl⟩ fp
    (fun s' J' => ⟨rfl, .ref s.heap.objs.size, _, by rw [upd_twice] at J'; exact J', rfl, q _ hS0⟩)
  first
    | exact wpAny_pure ⟨plainId_quiet ud_plain _, key⟩
    | exact wpAny_bind (wpAny_pure (wpAny_pure ⟨plainId_quiet ud_plain _, key⟩))
end
end L2.G42

set_option Elab.async false
set_option linter.all false
set_option maxRecDepth 100000
set_option maxHeartbeats 4000000
namespace L2.G42
open PySem PySem.Spec
/-! the tokens of a tree: words stand apart -/
def wordS (t : Str) : Prop := Word t.cps.toList
def signS (t : Str) : Prop := Sign t.cps.toList
/-- tokens, no word straight behind a word -/
inductive AltS : List Str → Prop
  | nil : AltS []
  | word {t : Str} (h : wordS t) : AltS [t]
  | sign {t : Str} {r : List Str} (h : signS t) (a : AltS r) : AltS (t :: r)
  | pair {t u : Str} {r : List Str} (h : wordS t) (g : signS u) (a : AltS r) : AltS (t :: u :: r)
theorem AltS.apart : ∀ {ts : List Str}, AltS ts → ∀ (ps : List (Nat × List Nat)), ps.map (fun x => tx x.2) = ts → Apart2 ps := by
  have cps : ∀ {x : Nat × List Nat} {t : Str}, tx x.2 = t → t.cps.toList = x.2 := fun {x t} e => by rw [← e, tx_cps]
  intro ts h
  induction h with
  | nil =>
    intro ps e
    rw [List.map_eq_nil_iff.mp e]
    exact trivial
  | word h =>
    intro ps e
    obtain ⟨a, r, rfl, e1, e2⟩ := Tr.map_cons_inv e
    rw [List.map_eq_nil_iff.mp e2]
    obtain ⟨s, t⟩ := a
    exact .inl (by have := cps e1; rw [← show _ = t from this]; exact h)
  | @sign t r h a ih =>
    intro ps e
    obtain ⟨a, r, rfl, e1, e2⟩ := Tr.map_cons_inv e
    have ih' := ih r e2
    obtain ⟨s, t⟩ := a
    have ht : Sign t := by have := cps e1; rw [← show _ = t from this]; exact h
    cases r with
    | nil => exact .inr ht
    | cons b r =>
      obtain ⟨s2, u⟩ := b
      refine ⟨.inr ht, fun hw => ?_, ih'⟩
      obtain ⟨c, rfl, h1, h2⟩ := ht
      have := hw.2 c List.mem_cons_self
      rw [h1] at this
      cases this
  | @pair t u r h g a ih =>
    intro ps e
    obtain ⟨a, r1, rfl, e1, e2⟩ := Tr.map_cons_inv e
    obtain ⟨b, r2, rfl, e3, e4⟩ := Tr.map_cons_inv e2
    have ih' := ih r2 e4
    obtain ⟨s, t⟩ := a
    obtain ⟨s2, u⟩ := b
    have ht : Word t := by have := cps e1; rw [← show _ = t from this]; exact h
    have hu : Sign u := by have := cps e3; rw [← show _ = u from this]; exact g
    refine ⟨.inl ht, fun _ => .inr hu, ?_⟩
    cases r2 with
    | nil => exact .inr hu
    | cons c r =>
      obtain ⟨s3, v⟩ := c
      refine ⟨.inr hu, fun hw => ?_, ih'⟩
      obtain ⟨c, rfl, h1, h2⟩ := hu
      have := hw.2 c List.mem_cons_self
      rw [h1] at this
      cases this
/-- tokens that end with a sign -/
inductive AltE : List Str → Prop
  | nil : AltE []
  | sign {t : Str} {r : List Str} (h : signS t) (a : AltE r) : AltE (t :: r)
  | pair {t u : Str} {r : List Str} (h : wordS t) (g : signS u) (a : AltE r) : AltE (t :: u :: r)
theorem AltE.alt {ts : List Str} (h : AltE ts) : AltS ts := by
  induction h with
  | nil => exact .nil
  | sign h _ ih => exact .sign h ih
  | pair h g _ ih => exact .pair h g ih
theorem AltE.app {a b : List Str} (h : AltE a) (h2 : AltE b) : AltE (a ++ b) := by
  induction h with
  | nil => exact h2
  | sign h _ ih => exact .sign h ih
  | pair h g _ ih => exact .pair h g ih
theorem key_word {x : Str} (h : isKey x = true) : wordS x := by
  unfold isKey at h
  simp only [Bool.and_eq_true, decide_eq_true_eq] at h
  refine ⟨fun e => ?_, fun c hc => List.all_eq_true.mp h.2.2 c hc⟩
  have : x.length = 0 := by
    show x.cps.size = 0
    rw [← Array.length_toList, e]
    rfl
  omega
theorem mode_word {x : Str} (h : x ∈ modes) : wordS x := by
  have : ∀ x ∈ modes, x.cps.toList ≠ [] ∧ x.cps.toList.all letter = true := by decide +kernel
  exact ⟨(this x h).1, fun c hc => List.all_eq_true.mp (this x h).2 c hc⟩
theorem sign_of {x : Str} {c : Nat} (h : x.cps.toList = [c]) (h1 : letter c = false) (h2 : c ≠ 32) : signS x := ⟨c, h, h1, h2⟩
theorem kind_sign {x : Str} (h : x ∈ kinds) : signS x := by
  have : x = "*" ∨ x = "!" := by simpa [kinds] using h
  rcases this with rfl | rfl
  · exact sign_of (c := 42) (by decide +kernel) (by decide) (by decide)
  · exact sign_of (c := 33) (by decide +kernel) (by decide) (by decide)
theorem sg_open : signS "{" := sign_of (c := 123) (by decide +kernel) (by decide) (by decide)
theorem sg_close : signS "}" := sign_of (c := 125) (by decide +kernel) (by decide) (by decide)
theorem sg_colon : signS ":" := sign_of (c := 58) (by decide +kernel) (by decide) (by decide)
theorem sg_comma : signS "," := sign_of (c := 44) (by decide +kernel) (by decide) (by decide)
namespace Tr
theorem alt_flat : ∀ xs : List (List Str), (∀ x ∈ xs, AltE x) → AltE ((xs.map fun y => Str.ofString "," :: y).flatten)
  | [], _ => .nil
  | x :: xs, h => by
    rw [List.map_cons, List.flatten_cons]
    exact AltE.app (.sign sg_comma (h x List.mem_cons_self)) (alt_flat xs fun y hy => h y (List.mem_cons_of_mem _ hy))
theorem alt_commas {xs : List (List Str)} (h : ∀ x ∈ xs, AltE x) : AltE (commas xs) := by
  cases xs with
  | nil => exact .nil
  | cons x xs => exact AltE.app (h x List.mem_cons_self) (alt_flat xs fun y hy => h y (List.mem_cons_of_mem _ hy))
theorem alt_toks : ∀ (n : Nat) (t : Tr n), Ok n t → AltE (toks n t) := by
  refine ind (fun n k h => ?_) (fun n m es ih ho => ?_)
  · rw [toks_bag]
    exact .sign (kind_sign (by rw [← ok_bag (n := n)]; exact h)) .nil
  · rw [toks_tab]
    refine .pair (mode_word ho.1) sg_open (AltE.app (alt_commas fun x hx => ?_) (.sign sg_close .nil))
    obtain ⟨e, he, rfl⟩ := List.mem_map.mp hx
    exact .pair (key_word (ho.2.2.2 e he).1) sg_colon (ih e he (ho.2.2.2 e he).2)
theorem toks_short : ∀ (n : Nat) (t : Tr n), Ok n t → ∀ x ∈ toks n t, x.length ≤ 9 := by
  refine ind (fun n k h x hx => ?_) (fun n m es ih ho x hx => ?_)
  · rw [toks_bag] at hx
    rw [List.mem_singleton.mp hx, kind_len (by rw [← ok_bag (n := n)]; exact h)]
    decide
  · rw [toks_tab] at hx
    have c1 : ∀ s ∈ ([Str.ofString "{", Str.ofString "}", Str.ofString ",", Str.ofString ":"] : List Str), s.length ≤ 9 := by decide +kernel
    have mem_commas : ∀ (xs : List (List Str)) (y : Str), y ∈ commas xs → y = "," ∨ ∃ l ∈ xs, y ∈ l := by
      intro xs y hy
      cases xs with
      | nil => cases hy
      | cons a xs =>
        rcases List.mem_append.mp (show y ∈ a ++ _ from hy) with h | h
        · exact .inr ⟨a, List.mem_cons_self, h⟩
        · obtain ⟨l, hl, h⟩ := List.mem_flatten.mp h
          obtain ⟨z, hz, rfl⟩ := List.mem_map.mp hl
          rcases List.mem_cons.mp h with h | h
          · exact .inl h
          · exact .inr ⟨z, List.mem_cons_of_mem _ hz, h⟩
    rcases List.mem_cons.mp hx with e | hx
    · rw [e, mode_len ho.1]; decide
    rcases List.mem_cons.mp hx with e | hx
    · rw [e]; exact c1 _ (by simp)
    rcases List.mem_append.mp hx with hx | hx
    · rcases mem_commas _ _ hx with e | ⟨l, hl, hx⟩
      · rw [e]; exact c1 _ (by simp)
      · obtain ⟨e, he, rfl⟩ := List.mem_map.mp hl
        rcases List.mem_cons.mp hx with h | hx
        · rw [h]
          have := (key_len (ho.2.2.2 e he).1).2
          omega
        rcases List.mem_cons.mp hx with h | hx
        · rw [h]; exact c1 _ (by simp)
        · exact ih e he (ho.2.2.2 e he).2 x hx
    · rw [List.mem_singleton.mp hx]; exact c1 _ (by simp)
end Tr
/-- the tokens of a loose text of a tree -/
theorem toks_of_loose {n : Nat} {t : Tr n} (ho : Tr.Ok n t) {ps : List (Nat × List Nat)} {e : Nat} (hp : ps.map (fun x => tx x.2) = Tr.toks n t) : toks 0 (loose ps e) = placed 0 ps := toks_loose ps e 0 ((Tr.alt_toks n t ho).alt.apart ps hp)
theorem placed_tw : ∀ (ps : List (Nat × List Nat)) (n : Nat), (placed n ps).map tw = ps.map fun x => tx x.2
  | [], _ => rfl
  | (s, t) :: ps, n => by
    show tw (n + s, t) :: (placed _ ps).map tw = tx t :: _
    rw [placed_tw ps]
    rfl
/-- a loose text of a tree within the bounds is read -/
theorem read_loose {n : Nat} {t : Tr n} (hn : n = 4) (hR : t.isRight = true) (ho : Tr.Ok n t) (hf : Tr.Few n t) (h1 : Tr.nt n t ≤ 6) (h2 : Tr.nb n t ≤ 6) {ps : List (Nat × List Nat)} {e : Nat} (hp : ps.map (fun x => tx x.2) = Tr.toks n t) :
    ∃ s2, rdWhole (rdStart (tx (loose ps e))) = .ok s2 ∧ s2.marks = kmk (Tr.marks n [] t) := by
  have et : (rdStart (tx (loose ps e))).toks = placed 0 ps := by
    show toks 0 (tx (loose ps e)).cps.toList = _
    rw [tx_cps, toks_of_loose ho hp]
  have ea : (rdStart (tx (loose ps e))).ah = placed 0 ps ++ [] := by
    show (rdStart (tx (loose ps e))).toks.drop 0 = _
    rw [et, List.drop_zero, List.append_nil]
  have r := Tr.read_tab n t [] ho hf hR (rdStart (tx (loose ps e))) (placed 0 ps) [] ea (by rw [placed_tw, hp]) (fun q hq => by cases hq) (by show 0 + _ ≤ 6; omega) (by show 0 + _ ≤ 6; omega)
  refine ⟨(rdStart (tx (loose ps e))).adv (placed 0 ps).length (Tr.marks n [] t) (Tr.nt n t) (Tr.nb n t), ?_, rfl⟩
  unfold rdWhole
  subst hn
  have r' : rdTable 4 [] (rdStart (tx (loose ps e))) = _ := r
  rw [r']
  show (if _ then _ else _) = _
  rw [if_neg]
  show ¬ 0 + (placed 0 ps).length < (rdStart (tx (loose ps e))).toks.length
  rw [et]
  omega
end L2.G42

set_option Elab.async false
set_option linter.all false
set_option maxRecDepth 100000
set_option maxHeartbeats 4000000
namespace L2.G42
open PySem PySem.Spec
/-- one of the promises S 0 .. S m -/
def spUp (S : Nat → Sp) (m : Nat) : Sp := fun vs H Q E => ∃ n, n ≤ m ∧ S n vs H Q E
theorem FnOk.up {P : Program} {w : World} {K : PySem.W.Frag} {mg : Str → Option Value} {base : Heap} {CX : CXT} {k m : Nat} {f : Addr} {fd : FuncData} {ps : List Str} {S : Nat → Sp} (h : ∀ n, n ≤ m → FnOk P w K mg base CX k f fd ps (S n)) : FnOk P w K mg base CX k f fd ps (spUp S m) :=
  ⟨fun vs H Q E ⟨n, hn, q⟩ => (h n hn).len vs H Q E q, fun A outer s H args us vs Q E hr he hb hv ⟨n, hn, q⟩ => (h n hn).run A outer s H args us vs Q E hr he hb hv q⟩
theorem FnOk.up4 {P : Program} {w : World} {K : PySem.W.Frag} {mg : Str → Option Value} {base : Heap} {CX : CXT} {k : Nat} {f : Addr} {fd : FuncData} {ps : List Str} {S : Nat → Sp} (h0 : FnOk P w K mg base CX k f fd ps (S 0)) (h1 : FnOk P w K mg base CX k f fd ps (S 1)) (h2 : FnOk P w K mg base CX k f fd ps (S 2)) (h3 : FnOk P w K mg base CX k f fd ps (S 3))
    (h4 : FnOk P w K mg base CX k f fd ps (S 4)) : FnOk P w K mg base CX k f fd ps (spUp S 4) :=
  FnOk.up fun n hn => match n, hn with | 0, _ => h0 | 1, _ => h1 | 2, _ => h2 | 3, _ => h3 | 4, _ => h4
/-- a list of places, as data -/
def dPl (ps : List (List Str)) : PyData := .list (ps.map fun p => .tuple (dS p))
theorem dp_pl {K : PySem.W.Frag} {H : Hp} : ∀ {vs : List V} {ps : List (List Str)}, PlAt H vs ps → DpAll K H vs (ps.map fun p => .tuple (dS p))
  | [], [], _ => .nil
  | v :: vs, p :: ps, h => by
    obtain ⟨⟨q, rfl, e⟩, h2⟩ := h
    exact .cons (dpT (SqT.of e)) (dp_pl h2)
  | [], _ :: _, h => h.elim
  | _ :: _, [], h => h.elim
theorem eqvs_pl : ∀ ps : List (List Str), PyData.eqvAll (ps.map fun p => .tuple (dS p)) (ps.map fun p => .tuple (dS p)) = true
  | [] => by rfl
  | p :: ps => by
    show PyData.eqvAll (.tuple (dS p) :: _) (.tuple (dS p) :: _) = true
    rw [PyData.eqvAll, eqv_tup, decide_eq_true rfl, eqvs_pl ps]
    rfl
theorem eqv_pl (ps : List (List Str)) : PyData.eqv (dPl ps) (dPl ps) = true := by
  unfold dPl
  rw [PyData.eqv]
  exact eqvs_pl ps
theorem can_pl : ∀ ps : List (List Str), (∀ p ∈ ps, SoAll p) → PyData.canLayAll0 (ps.map fun p => .tuple (dS p)) = true
  | [], _ => by simp [PyData.canLayAll0]
  | p :: ps, h => by
    show PyData.canLayAll0 (.tuple (dS p) :: _) = true
    rw [PyData.canLayAll0, can_pl ps fun y hy => h y (List.mem_cons_of_mem _ hy), PyData.canLay0, canS p (h p List.mem_cons_self)]
    rfl
theorem dep_pl : ∀ ps : List (List Str), PyData.depthAll (ps.map fun p => .tuple (dS p)) ≤ 1
  | [] => by simp [PyData.depthAll]
  | p :: ps => by
    show PyData.depthAll (.tuple (dS p) :: _) ≤ 1
    have := dep_pl ps
    rw [PyData.depthAll, PyData.depth, depS]
    omega
theorem shaped_pl {ps : List (List Str)} (h : ∀ p ∈ ps, SoAll p) : SeqAt.shaped (dPl ps) = true := by
  have := dep_pl ps
  refine Bool.and_eq_true_iff.mpr ⟨?_, decide_eq_true ?_⟩
  · unfold dPl
    rw [PyData.canLay0]; exact can_pl ps h
  · unfold dPl
    rw [PyData.depth]
    omega
end L2.G42

set_option Elab.async false
set_option linter.all false
set_option maxRecDepth 100000
set_option maxHeartbeats 4000000
namespace L2.G42
open PySem PySem.Spec
/-- the first token beyond a bound -/
def fst (k a b : Nat) (cs : List Nat) : List Str → Option Nat
  | [] => none
  | t :: ts => if t = "{" then (if 6 < a + 1 ∨ 4 < cs.length + 1 then some (k - 1) else fst (k + 1) (a + 1) b (0 :: cs) ts)
    else if t = "}" then fst (k + 1) a b cs.tail ts
    else if t = "," then (if 2 < cs.headD 0 + 1 then some k else fst (k + 1) a b ((cs.headD 0 + 1) :: cs.tail) ts)
    else if kinds.contains t = true then (if 6 < b + 1 then some k else fst (k + 1) a (b + 1) cs ts)
    else fst (k + 1) a b cs ts
theorem fst_plain {k a b : Nat} {cs : List Nat} {t : Str} {ts : List Str} (h1 : t ≠ "{") (h2 : t ≠ "}") (h3 : t ≠ ",") (h4 : kinds.contains t = false) : fst k a b cs (t :: ts) = fst (k + 1) a b cs ts := by
  rw [fst, if_neg h1, if_neg h2, if_neg h3, if_neg (by rw [h4]; decide)]
theorem word_plain {t : Str} (h : wordS t) : t ≠ "{" ∧ t ≠ "}" ∧ t ≠ "," ∧ kinds.contains t = false := by
  have no : ∀ s : Str, signS s → t ≠ s := fun s hs e => by
    obtain ⟨c, e1, h1, _⟩ := hs
    rw [e] at h
    have := h.2 c (by rw [e1]; exact List.mem_cons_self)
    rw [h1] at this
    cases this
  refine ⟨no _ sg_open, no _ sg_close, no _ sg_comma, ?_⟩
  cases e : kinds.contains t with
  | false => rfl
  | true => exact absurd rfl (no t (kind_sign (List.contains_iff_mem.mp e)))
theorem fst_word {k a b : Nat} {cs : List Nat} {t : Str} {ts : List Str} (h : wordS t) : fst k a b cs (t :: ts) = fst (k + 1) a b cs ts := let ⟨h1, h2, h3, h4⟩ := word_plain h; fst_plain h1 h2 h3 h4
theorem fst_colon {k a b : Nat} {cs : List Nat} {ts : List Str} : fst k a b cs (Str.ofString ":" :: ts) = fst (k + 1) a b cs ts := fst_plain (by decide) (by decide) (by decide) (by decide +kernel)
theorem fst_close {k a b : Nat} {cs : List Nat} {ts : List Str} : fst k a b cs (Str.ofString "}" :: ts) = fst (k + 1) a b cs.tail ts := by
  rw [fst, if_neg (by decide), if_pos rfl]
theorem fst_comma {k a b : Nat} {cs : List Nat} {ts : List Str} : fst k a b cs (Str.ofString "," :: ts) = (if 2 < cs.headD 0 + 1 then some k else fst (k + 1) a b ((cs.headD 0 + 1) :: cs.tail) ts) := by
  rw [fst, if_neg (by decide), if_neg (by decide), if_pos rfl]
theorem fst_open {k a b : Nat} {cs : List Nat} {ts : List Str} : fst k a b cs (Str.ofString "{" :: ts) = (if 6 < a + 1 ∨ 4 < cs.length + 1 then some (k - 1) else fst (k + 1) (a + 1) b (0 :: cs) ts) := by
  rw [fst, if_pos rfl]
theorem fst_kind {k a b : Nat} {cs : List Nat} {t : Str} {ts : List Str} (h : t ∈ kinds) : fst k a b cs (t :: ts) = (if 6 < b + 1 then some k else fst (k + 1) a (b + 1) cs ts) := by
  have : ∀ t ∈ kinds, t ≠ "{" ∧ t ≠ "}" ∧ t ≠ "," := by decide +kernel
  obtain ⟨h1, h2, h3⟩ := this t h
  rw [fst, if_neg h1, if_neg h2, if_neg h3, if_pos (List.contains_iff_mem.mpr h)]
/-- reader and first token go along -/
def Sim (s : Rd) (res : Except Nat Rd) (s' : Rd) (ts : List (Nat × List Nat)) (k : Nat) (cs cs' : List Nat) : Prop :=
  (res = .ok s' ∧ s'.nt ≤ 6 ∧ s'.nb ≤ 6 ∧ ∀ rw, fst k s.nt s.nb cs (ts.map tw ++ rw) = fst (k + ts.length) s'.nt s'.nb cs' rw) ∨
  ∃ j tok, ts[j]? = some tok ∧ res = .error tok.1 ∧ ∀ rw, fst k s.nt s.nb cs (ts.map tw ++ rw) = some (k + j)
theorem Sim.bind {s s1 s2 : Rd} {r1 : Except Nat Rd} {f : Rd → Except Nat Rd} {ts1 ts2 : List (Nat × List Nat)} {k : Nat} {cs cs1 cs2 : List Nat} (h1 : Sim s r1 s1 ts1 k cs cs1) (h2 : s1.nt ≤ 6 → s1.nb ≤ 6 → Sim s1 (f s1) s2 ts2 (k + ts1.length) cs1 cs2) : Sim s (r1.bind f) s2 (ts1 ++ ts2) k cs cs2 := by
  rcases h1 with ⟨e, a, b, w⟩ | ⟨j, tok, hj, e, w⟩
  · subst e
    rcases h2 a b with ⟨e2, a2, b2, w2⟩ | ⟨j, tok, hj, e2, w2⟩
    · refine .inl ⟨e2, a2, b2, fun rw' => ?_⟩
      rw [List.map_append, List.append_assoc, w, w2, List.length_append]
      congr 1
      omega
    · refine .inr ⟨ts1.length + j, tok, ?_, e2, fun rw' => ?_⟩
      · rw [List.getElem?_append_right (by omega)]
        rw [show ts1.length + j - ts1.length = j by omega]
        exact hj
      · rw [List.map_append, List.append_assoc, w, w2]
        congr 1
        omega
  · subst e
    refine .inr ⟨j, tok, ?_, rfl, fun rw' => ?_⟩
    · rw [List.getElem?_append_left]
      · exact hj
      · rcases Nat.lt_or_ge j ts1.length with z | z
        · exact z
        · rw [List.getElem?_eq_none z] at hj; cases hj
    · rw [List.map_append, List.append_assoc, w]
theorem ebind_assoc (r : Except Nat Rd) (f g : Rd → Except Nat Rd) : (r.bind f).bind g = r.bind fun x => (f x).bind g := by cases r <;> rfl
theorem pos_of {s : Rd} {t : Nat × List Nat} {r : List (Nat × List Nat)} (h : s.ah = t :: r) : s.pos = t.1 := by
  have hl := (word_of h).2.2
  have hd : s.toks.drop s.at_ = s.toks[s.at_] :: s.toks.drop (s.at_ + 1) := List.drop_eq_getElem_cons hl
  unfold Rd.ah at h
  rw [hd] at h
  injection h with h1 _
  unfold Rd.pos
  rw [List.getElem?_eq_getElem hl, h1]
namespace Tr
/-- an entry's reader goes along -/
def SimE (ent : Rd → Except Nat Rd) (p : List Str) (n L : Nat) (e : Str × Tr n) : Prop := ∀ (s : Rd) (ts rest : List (Nat × List Nat)) (k : Nat) (cs : List Nat), cs.length + L = 4 → s.nt ≤ 6 → s.nb ≤ 6 → s.ah = ts ++ rest → ts.map tw = part e → Free s (p ++ [e.1]) →
  Sim s (ent s) (s.adv ts.length (marks n (p ++ [e.1]) e.2) (nt n e.2) (nb n e.2)) ts k cs cs
theorem sim_more {ent : Rd → Except Nat Rd} {p : List Str} {n L : Nat} : ∀ (es : List (Str × Tr n)) (j : Nat) (s : Rd) (ts rest : List (Nat × List Nat)) (k c : Nat) (cs : List Nat), (∀ e ∈ es, SimE ent p n L e) → c + j = 2 → cs.length + 1 + L = 4 → s.nt ≤ 6 → s.nb ≤ 6 → s.ah = ts ++ rest → ts.map tw = (es.map fun e => Str.ofString "," :: part e).flatten →
    (∀ t r, rest = t :: r → tw t ≠ ",") → DiffBy (·.1) es → (∀ e ∈ es, Free s (p ++ [e.1])) →
    Sim s (rdMore ent j s) (s.adv ts.length (es.flatMap fun e => marks n (p ++ [e.1]) e.2) (es.map fun e => nt n e.2).sum (es.map fun e => nb n e.2).sum) ts k (c :: cs) ((c + es.length) :: cs)
  | [], j, s, ts, rest, k, c, cs, _, _, _, h6, h6', ha, ht, hr, _, _ => by
    have e : ts = [] := List.map_eq_nil_iff.mp ht
    subst e
    have hw : s.word ≠ "," := by
      cases rest with
      | nil => rw [word_nil ha]; decide
      | cons t r => rw [(word_of ha).1]; exact hr t r rfl
    have e2 : s.adv ([] : List (Nat × List Nat)).length (([] : List (Str × Tr n)).flatMap fun e => marks n (p ++ [e.1]) e.2) 0 0 = s := by
      unfold Rd.adv kmk
      simp
    refine .inl ⟨?_, h6, h6', fun rw' => ?_⟩
    · cases j with
      | zero => rw [rdMore, if_neg hw]; exact congrArg Except.ok e2.symm
      | succ j => rw [rdMore, if_neg hw]; exact congrArg Except.ok e2.symm
    · rfl
  | e :: es, j, s, ts, rest, k, c, cs, he, hc, hL, h6, h6', ha, ht, hr, hd, hf => by
    rw [List.map_cons, List.flatten_cons] at ht
    obtain ⟨ta, tb, rfl, m1, m2⟩ := map_app_inv ht
    obtain ⟨tc, ta, rfl, m3, m4⟩ := map_cons_inv m1
    have ha' : s.ah = tc :: (ta ++ (tb ++ rest)) := by rw [ha]; simp
    have w := word_of ha'
    cases j with
    | zero =>
      refine .inr ⟨0, tc, rfl, ?_, fun rw' => ?_⟩
      · rw [rdMore, if_pos (w.1.trans m3), pos_of ha']
      · rw [List.cons_append, List.map_cons, m3, List.cons_append, fst_comma, if_pos (by show 2 < c + 1; omega)]
        rfl
    | succ j =>
      rw [rdMore, if_pos (w.1.trans m3)]
      have hs : s.step = s.adv 1 [] 0 0 := by
        unfold Rd.adv Rd.step kmk
        simp
      have hd' := List.pairwise_cons.mp hd
      -- the comma
      have s0 : Sim s (.ok s.step) s.step [tc] k (c :: cs) ((c + 1) :: cs) := by
        refine .inl ⟨rfl, h6, h6', fun rw' => ?_⟩
        rw [List.map_singleton, m3, List.singleton_append, fst_comma, if_neg (by show ¬ 2 < c + 1; omega)]
        rfl
      have s1 := he e List.mem_cons_self s.step ta (tb ++ rest) (k + 1) ((c + 1) :: cs) (by rw [List.length_cons]; omega) h6 h6' w.2.1 m4 (hf e List.mem_cons_self)
      have s2 := Sim.bind (f := ent) s0 fun _ _ => s1
      have g1 : ∀ x ∈ es, Free (s.step.adv ta.length (marks n (p ++ [e.1]) e.2) (nt n e.2) (nb n e.2)) (p ++ [x.1]) := fun x hx => Free.adv (s := s.step) (hf x (List.mem_cons_of_mem _ hx)) (marks_pre n e.2 (p ++ [e.1])) (ne_keys (hd'.1 x hx))
      have s3 := Sim.bind (f := rdMore ent j) s2 fun a b => sim_more es j _ tb rest (k + (([tc] : List (Nat × List Nat)) ++ ta).length) (c + 1) cs (fun x hx => he x (List.mem_cons_of_mem _ hx)) (by omega) hL a b (adv_ah w.2.1 rfl _ _ _) m2 hr hd'.2 g1
      have e3 : (s.step.adv ta.length (marks n (p ++ [e.1]) e.2) (nt n e.2) (nb n e.2)).adv tb.length (es.flatMap fun e => marks n (p ++ [e.1]) e.2) (es.map fun e => nt n e.2).sum (es.map fun e => nb n e.2).sum = s.adv (tc :: ta ++ tb).length ((e :: es).flatMap fun e => marks n (p ++ [e.1]) e.2) ((e :: es).map fun e => nt n e.2).sum ((e :: es).map fun e => nb n e.2).sum := by
        rw [hs, adv_adv, adv_adv]
        simp only [List.nil_append, Nat.zero_add, List.flatMap_cons, List.map_cons, List.sum_cons, List.length_cons, List.length_append]
        congr 1
        omega
      rw [e3] at s3
      have e4 : c + 1 + es.length = c + (e :: es).length := by rw [List.length_cons]; omega
      rw [e4] at s3
      exact s3
/-- a table's reader goes along -/
def SimT (n : Nat) (t : Tr n) (p : List Str) (L : Nat) : Prop := ∀ (s : Rd) (ts rest : List (Nat × List Nat)) (k : Nat) (cs : List Nat), cs.length + L = 4 → s.nt ≤ 6 → s.nb ≤ 6 → s.ah = ts ++ rest → ts.map tw = toks n t → Free s p →
  Sim s (rdTable L (kp p) s) (s.adv ts.length (marks n p t) (nt n t) (nb n t)) ts k cs cs
theorem sim_ent {n L : Nat} {p : List Str} {e : Str × Tr n} (hk : isKey e.1 = true) (ho : Ok n e.2) (hT : e.2.isRight = true → SimT n e.2 (p ++ [e.1]) L) : SimE (rdEntry (rdTable L) (kp p)) p n L e := by
  intro s ts rest k cs hL h6 h6' ha ht hf
  obtain ⟨t0, ts, rfl, m0, ht⟩ := map_cons_inv ht
  obtain ⟨t1, ts, rfl, m1, ht⟩ := map_cons_inv ht
  have w := word_of ha
  have kk : kp p ++ [Sum.inr s.word] = kp (p ++ [e.1]) := by
    rw [kp_app, w.1, m0]
    rfl
  have hs : s.step.adv 1 [] 0 0 = s.adv 2 [] 0 0 := by
    unfold Rd.adv Rd.step kmk
    simp
  have ha2 : (s.adv 2 [] 0 0).ah = ts ++ rest := adv_ah (s := s) (ts := [t0, t1]) (rest := ts ++ rest) ha (k := 2) rfl [] 0 0
  have f2 : Free (s.adv 2 [] 0 0) (p ++ [e.1]) := fun q hq r => hf q (by simpa [Rd.adv, kmk] using hq) r
  have s0 : Sim s (.ok (s.adv 2 [] 0 0)) (s.adv 2 [] 0 0) [t0, t1] k cs cs := by
    refine .inl ⟨rfl, h6, h6', fun rw' => ?_⟩
    rw [List.map_cons, List.map_singleton, m0, m1]
    show fst k s.nt s.nb cs (e.1 :: Str.ofString ":" :: rw') = _
    rw [fst_word (key_word hk), fst_colon]
    rfl
  have eq : rdEntry (rdTable L) (kp p) s = (Except.ok (s.adv 2 [] 0 0)).bind fun s2 => if kinds.contains s2.word = false then rdTable L (kp (p ++ [e.1])) s2 else if s2.nb = 6 then .error s2.pos else .ok { s2.step with nb := s2.nb + 1, marks := putK s2.marks (kp (p ++ [e.1])) (.str s2.word) } := by
    unfold rdEntry
    rw [if_neg (by rw [kk, val_none hf, w.1, m0, hk]; simp), take_of (s := s.step) w.2.1 m1, hs, kk]
  rw [eq]
  obtain ⟨key, t⟩ := e
  cases hR : t.isRight with
  | false =>
    obtain ⟨kd, rfl⟩ : ∃ k, t = .inl k := by
      cases t with
      | inl k => exact ⟨k, rfl⟩
      | inr x => cases hR
    have ho : kd ∈ kinds := by rw [← ok_bag (n := n)]; exact ho
    have ht : ts.map tw = [kd] := by rw [← toks_bag (n := n)]; exact ht
    obtain ⟨t2, ts, rfl, m2, ht⟩ := map_cons_inv ht
    have e : ts = [] := List.map_eq_nil_iff.mp ht
    subst e
    have w2 := word_of ha2
    have e1 : marks n (p ++ [key]) (.inl kd : Tr n) = [(p ++ [key], kd)] := marks_bag
    have e2 : nt n (.inl kd : Tr n) = 0 := nt_bag
    have e3 : nb n (.inl kd : Tr n) = 1 := nb_bag
    have hkc : kinds.contains (s.adv 2 [] 0 0).word = true := by
      rw [w2.1, m2]
      exact List.contains_iff_mem.mpr ho
    have := Sim.bind (s2 := s.adv 3 [(p ++ [key], kd)] 0 1) (ts2 := [t2]) (cs2 := cs) (f := fun s2 => if kinds.contains s2.word = false then rdTable L (kp (p ++ [key])) s2 else if s2.nb = 6 then .error s2.pos else .ok { s2.step with nb := s2.nb + 1, marks := putK s2.marks (kp (p ++ [key])) (.str s2.word) }) s0 fun _ _ => ?_
    · show Sim s _ (s.adv 3 (marks n (p ++ [key]) (.inl kd)) (nt n (.inl kd)) (nb n (.inl kd))) [t0, t1, t2] k cs cs
      rw [e1, e2, e3]
      exact this
    · show Sim _ (if _ then _ else if _ then _ else _) _ _ _ _ _
      rw [if_neg (by rw [hkc]; decide)]
      by_cases h : (s.adv 2 [] 0 0).nb = 6
      · rw [if_pos h]
        refine .inr ⟨0, t2, rfl, by rw [pos_of ha2], fun rw' => ?_⟩
        rw [List.map_singleton, m2, List.singleton_append, fst_kind ho, if_pos (by omega)]
        rfl
      · rw [if_neg h]
        have h6b : s.nb + 1 ≤ 6 := by
          have : ¬ s.nb = 6 := h
          omega
        refine .inl ⟨?_, h6, h6b, fun rw' => ?_⟩
        · rw [put_new f2, w2.1, m2]
          unfold Rd.adv Rd.step kmk
          simp
        · rw [List.map_singleton, m2, List.singleton_append, fst_kind ho, if_neg (by show ¬ 6 < s.nb + 1; omega)]
          rfl
  | true =>
    obtain ⟨m, r, e1, hm⟩ := head_tab n t hR ho
    have ht' := ht
    rw [e1] at ht'
    obtain ⟨t2, ts2, rfl, m2, _⟩ := map_cons_inv ht'
    have w2 := word_of ha2
    have st := hT hR (s.adv 2 [] 0 0) (t2 :: ts2) rest (k + 2) cs hL h6 h6' ha2 ht f2
    have := Sim.bind (s2 := (s.adv 2 [] 0 0).adv (t2 :: ts2).length (marks n (p ++ [key]) t) (nt n t) (nb n t)) (ts2 := t2 :: ts2) (cs2 := cs) (f := fun s2 => if kinds.contains s2.word = false then rdTable L (kp (p ++ [key])) s2 else if s2.nb = 6 then .error s2.pos else .ok { s2.step with nb := s2.nb + 1, marks := putK s2.marks (kp (p ++ [key])) (.str s2.word) }) s0 fun _ _ => by
      show Sim _ (if _ then _ else _) _ _ _ _ _
      rw [if_pos (by rw [w2.1, m2]; exact kinds_not hm)]
      exact st
    rw [adv_adv] at this
    simp only [List.nil_append, Nat.zero_add, List.length_cons] at this ⊢
    rw [show ts2.length + 1 + 1 + 1 = 2 + (ts2.length + 1) by omega]
    exact this
theorem sim_tab : ∀ (n : Nat) (t : Tr n), Ok n t → t.isRight = true → ∀ p L, SimT n t p L := by
  refine ind (fun n k _ h => by cases h) (fun n m es ih ho _ p L s ts rest k cs hL h6 h6' ha ht hf => ?_)
  rw [ok_tab] at ho
  rw [toks_tab] at ht
  obtain ⟨hm, ne, hd, hes⟩ := ho
  obtain ⟨t0, ts, rfl, m0, ht⟩ := map_cons_inv ht
  obtain ⟨t1, ts, rfl, m1, ht⟩ := map_cons_inv ht
  obtain ⟨te, tz, rfl, m2, m3⟩ := map_app_inv ht
  obtain ⟨tc, tz, rfl, m4, m5⟩ := map_cons_inv m3
  have e0 : tz = [] := List.map_eq_nil_iff.mp m5
  subst e0
  have w := word_of ha
  have hmc : modes.contains s.word = true := by
    rw [w.1, m0]
    exact modes_in hm
  have hmw := mode_word hm
  -- refused at the mode
  have bad : ∀ res, res = Except.error s.pos → (6 < s.nt + 1 ∨ 4 < cs.length + 1) → Sim s res (s.adv (t0 :: t1 :: (te ++ [tc])).length (marks (n + 1) p (tab m es)) (nt (n + 1) (tab m es)) (nb (n + 1) (tab m es))) (t0 :: t1 :: (te ++ [tc])) k cs cs := fun res er hb => by
    refine .inr ⟨0, t0, rfl, by rw [er, pos_of ha], fun rw' => ?_⟩
    rw [List.map_cons, List.map_cons, m0, m1]
    show fst k s.nt s.nb cs (m :: Str.ofString "{" :: _) = _
    rw [fst_word hmw, fst_open, if_pos hb]
    rfl
  cases L with
  | zero => exact bad _ rfl (.inr (by omega))
  | succ L =>
    unfold rdTable
    by_cases h6t : s.nt = 6
    · rw [if_pos (.inr h6t)]
      exact bad _ rfl (.inl (by omega))
    · rw [if_neg (by rw [hmc]; simp [h6t])]
      have e1 : ({ s.step with nt := s.nt + 1, marks := putK s.marks (kp p) (.str s.word) } : Rd) = s.adv 1 [(p, m)] 1 0 := by
        rw [put_new hf, w.1, m0]
        unfold Rd.adv Rd.step kmk
        simp
      rw [e1]
      have ha1 : (s.adv 1 [(p, m)] 1 0).ah = t1 :: (te ++ (tc :: rest)) := adv_ah (s := s) (ts := [t0]) (rest := t1 :: (te ++ (tc :: rest))) (by rw [ha]; simp) (k := 1) rfl [(p, m)] 1 0
      rw [take_of ha1 m1, adv_adv]
      have ha2 : (s.adv (1 + 1) ([(p, m)] ++ []) (1 + 0) (0 + 0)).ah = te ++ (tc :: rest) := adv_ah (s := s) (ts := [t0, t1]) (rest := te ++ (tc :: rest)) (by rw [ha]; simp) (k := 1 + 1) rfl ([(p, m)] ++ []) (1 + 0) (0 + 0)
      have f2 : ∀ e ∈ es, Free (s.adv (1 + 1) ([(p, m)] ++ []) (1 + 0) (0 + 0)) (p ++ [e.1]) := fun e _ => by
        intro q hq r eq
        rcases List.mem_append.mp (show q ∈ s.marks ++ kmk ([(p, m)] ++ []) from hq) with hq | hq
        · exact hf.under e.1 q hq r eq
        · have : q = (kp p, V.str m) := by simpa [kmk] using hq
          rw [this, kp_app, List.append_assoc] at eq
          have := congrArg List.length eq
          simp [kp] at this
      have s0 : Sim s (.ok (s.adv (1 + 1) ([(p, m)] ++ []) (1 + 0) (0 + 0))) (s.adv (1 + 1) ([(p, m)] ++ []) (1 + 0) (0 + 0)) [t0, t1] k cs (0 :: cs) := by
        refine .inl ⟨rfl, by show s.nt + 1 ≤ 6; omega, h6', fun rw' => ?_⟩
        rw [List.map_cons, List.map_singleton, m0, m1]
        show fst k s.nt s.nb cs (m :: Str.ofString "{" :: rw') = _
        rw [fst_word hmw, fst_open, if_neg (by omega)]
        rfl
      have hent : ∀ e ∈ es, SimE (rdEntry (rdTable L) (kp p)) p n L e := fun e he => sim_ent (hes e he).1 (hes e he).2 fun hR => ih e he (hes e he).2 hR (p ++ [e.1]) L
      cases es with
      | nil => exact absurd rfl ne
      | cons e es =>
        rw [List.map_cons, commas] at m2
        obtain ⟨ta, tb, rfl, m6, m7⟩ := map_app_inv m2
        rw [List.map_map] at m7
        have hd' := List.pairwise_cons.mp hd
        have s1 := Sim.bind (f := rdEntry (rdTable L) (kp p)) s0 fun a b => hent e List.mem_cons_self _ ta (tb ++ (tc :: rest)) (k + 2) (0 :: cs) (by rw [List.length_cons]; omega) a b (by rw [ha2]; simp) m6 (f2 e List.mem_cons_self)
        have ha3 := adv_ah (s := s.adv (1 + 1) ([(p, m)] ++ []) (1 + 0) (0 + 0)) (ts := ta) (rest := tb ++ (tc :: rest)) (by rw [ha2]; simp) rfl (marks n (p ++ [e.1]) e.2) (nt n e.2) (nb n e.2)
        have g0 : ∀ t r, tc :: rest = t :: r → tw t ≠ "," := fun t r q => by
          injection q with q1 q2
          rw [← q1, m4]
          decide
        have g1 : ∀ x ∈ es, Free ((s.adv (1 + 1) ([(p, m)] ++ []) (1 + 0) (0 + 0)).adv ta.length (marks n (p ++ [e.1]) e.2) (nt n e.2) (nb n e.2)) (p ++ [x.1]) := fun x hx => (f2 x (List.mem_cons_of_mem _ hx)).adv (marks_pre n e.2 (p ++ [e.1])) (ne_keys (hd'.1 x hx))
        have s2 := Sim.bind (f := rdMore (rdEntry (rdTable L) (kp p)) 2) s1 fun a b => sim_more es 2 _ tb (tc :: rest) (k + (([t0, t1] : List (Nat × List Nat)) ++ ta).length) 0 cs (fun x hx => hent x (List.mem_cons_of_mem _ hx)) rfl (by omega) a b ha3 m7 g0 hd'.2 g1
        rw [adv_adv] at s2
        have ha4 := adv_ah (s := s.adv (1 + 1) ([(p, m)] ++ []) (1 + 0) (0 + 0)) (ts := ta ++ tb) (rest := tc :: rest) (by rw [ha2]) (k := ta.length + tb.length) (by simp) (marks n (p ++ [e.1]) e.2 ++ es.flatMap fun e => marks n (p ++ [e.1]) e.2) (nt n e.2 + (es.map fun e => nt n e.2).sum) (nb n e.2 + (es.map fun e => nb n e.2).sum)
        have s3 := Sim.bind (f := rdTake "}") (ts2 := [tc]) (cs2 := cs) (s2 := ((s.adv (1 + 1) ([(p, m)] ++ []) (1 + 0) (0 + 0)).adv (ta.length + tb.length) (marks n (p ++ [e.1]) e.2 ++ es.flatMap fun e => marks n (p ++ [e.1]) e.2) (nt n e.2 + (es.map fun e => nt n e.2).sum) (nb n e.2 + (es.map fun e => nb n e.2).sum)).adv 1 [] 0 0) s2 fun a b => .inl ⟨take_of ha4 m4, a, b, fun rw' => by
          rw [List.map_singleton, m4]
          show fst _ _ _ _ (Str.ofString "}" :: rw') = _
          rw [fst_close]
          rfl⟩
        have e5 : ((s.adv (1 + 1) ([(p, m)] ++ []) (1 + 0) (0 + 0)).adv (ta.length + tb.length) (marks n (p ++ [e.1]) e.2 ++ es.flatMap fun e => marks n (p ++ [e.1]) e.2) (nt n e.2 + (es.map fun e => nt n e.2).sum) (nb n e.2 + (es.map fun e => nb n e.2).sum)).adv 1 [] 0 0 = s.adv (t0 :: t1 :: (ta ++ tb ++ [tc])).length (marks (n + 1) p (tab m (e :: es))) (nt (n + 1) (tab m (e :: es))) (nb (n + 1) (tab m (e :: es))) := by
          rw [adv_adv, adv_adv, marks_tab, nt_tab, nb_tab]
          simp only [List.nil_append, List.append_nil, List.singleton_append, Nat.zero_add, Nat.add_zero, List.flatMap_cons, List.map_cons, List.sum_cons, List.length_cons, List.length_append, List.length_nil, List.cons_append]
          congr 1
          omega
        rw [e5, ebind_assoc, ebind_assoc] at s3
        have e6 : ([t0, t1] ++ ta ++ tb ++ [tc] : List (Nat × List Nat)) = t0 :: t1 :: (ta ++ tb ++ [tc]) := by simp
        rw [e6] at s3
        exact s3
end Tr
end L2.G42

set_option Elab.async false
set_option linter.all false
set_option maxRecDepth 100000
set_option maxHeartbeats 4000000
namespace L2.G42
open PySem PySem.Spec
/-- the keys of a table that is drawn, and those left (no bound on how many) -/
structure KsG (n : Nat) (ks : List Str) (es : List (Str × Tr n)) : Prop where
  nd : (es.map (·.1) ++ ks).Nodup
  key : ∀ k ∈ ks, isKey k = true
  ok : ∀ e ∈ es, isKey e.1 = true ∧ Tr.Ok n e.2
theorem KsG.step {n : Nat} {ks : List Str} {es : List (Str × Tr n)} (S : KsG n ks es) {i : Nat} {key : Str} (hi : ks[i]? = some key) {t : Tr n} (ho : Tr.Ok n t) : KsG n (ks.eraseIdx i) (es ++ [(key, t)]) := by
  have hlt : i < ks.length := by
    rcases Nat.lt_or_ge i ks.length with q | q
    · exact q
    · rw [List.getElem?_eq_none q] at hi; cases hi
  have hk : key ∈ ks := List.mem_of_getElem? hi
  have e : ks = ks.take i ++ key :: ks.drop (i + 1) := by
    have := List.take_append_drop i ks
    rw [List.drop_eq_getElem_cons hlt] at this
    rw [List.getElem?_eq_getElem hlt] at hi
    injection hi with hi
    rw [hi] at this
    exact this.symm
  refine ⟨?_, fun k h => S.key k (List.mem_of_mem_eraseIdx h), fun x hx => ?_⟩
  · have nd := S.nd
    have p : ((es ++ [(key, t)]).map (·.1) ++ ks.eraseIdx i).Perm (es.map (·.1) ++ ks) := by
      rw [List.map_append, List.append_assoc, List.eraseIdx_eq_take_drop_succ]
      refine List.Perm.append_left _ ?_
      have q : (key :: (ks.take i ++ ks.drop (i + 1))).Perm (ks.take i ++ key :: ks.drop (i + 1)) := List.perm_middle.symm
      rw [← e] at q
      exact q
    exact p.nodup_iff.mpr nd
  · rcases List.mem_append.mp hx with h | h
    · exact S.ok x h
    · rw [List.mem_singleton.mp h]
      exact ⟨S.key key hk, ho⟩
/-- a table is drawn that need not keep the bounds -/
def spGrown (K : PySem.W.Frag) (n : Nat) : Sp := fun vs H Q _ => ∃ (a wl lf sh : Addr) (ws : List Str) (lv tb bb d wd x : Nat), vs = [.ref a, .ref wl, .ref lf, .int (lv : Nat), .ref sh] ∧ lv + n = d + 1 ∧ H sh = some (.lst [.int (d : Nat), .int (wd : Nat), .int (x : Nat)]) ∧ sh ≠ a ∧ sh ≠ lf ∧ 1 ≤ wd ∧ wd ≤ 5 ∧ SrcAt H a ∧ H wl = some (.lst (ws.map V.str)) ∧ H lf = some (.lst [.int (tb : Nat), .int (bb : Nat)]) ∧ a ≠ wl ∧ a ≠ lf ∧ wl ≠ lf ∧ 5 ≤ ws.length ∧ ws.length ≤ 20 ∧ ws.Nodup ∧ (∀ w ∈ ws, isKey w = true) ∧ tb ≤ 100 ∧ bb ≤ 100 ∧
  ∀ (v : V) (t : Tr n) (t1 b1 : Nat) (G H' : Hp), t.isRight = true → Tr.Ok n t → Tr.nt n t + t1 = tb + 1 → Tr.nb n t + b1 = bb + 1 → Dp K G v (Tr.dat n t) → Part G H' → (∀ x, H x ≠ none → G x = none) → SrcAt H' a → H' lf = some (.lst [.int (t1 : Nat), .int (b1 : Nat)]) → But (fun x => x = a ∨ x = lf) H H' → Q v H'
theorem Tr.rows_count : ∀ (n : Nat) (t : Tr n) (p : List Str), (rows n p t).length = nt n t + nb n t := by
  refine ind (fun n k p => by rw [rows_bag, nt_bag, nb_bag]; rfl) (fun n m es ih p => ?_)
  rw [rows_tab, nt_tab, nb_tab, List.length_cons, len_flatMap]
  have : (es.map fun e => (rows n (p ++ [e.1]) e.2).length) = es.map fun e => nt n e.2 + nb n e.2 := List.map_congr_left fun e he => ih e he _
  rw [this]
  have sp : ∀ l : List (Str × Tr n), (l.map fun e => nt n e.2 + nb n e.2).sum = (l.map fun e => nt n e.2).sum + (l.map fun e => nb n e.2).sum := fun l => by
    induction l with
    | nil => rfl
    | cons x l ih => rw [List.map_cons, List.map_cons, List.map_cons, List.sum_cons, List.sum_cons, List.sum_cons, ih]; omega
  rw [sp]
  omega
/-- what a loose text of a tree gives -/
theorem bounds_loose {n : Nat} {t : Tr n} (hR : t.isRight = true) (ho : Tr.Ok n t) {ps : List (Nat × List Nat)} {e : Nat} (hp : ps.map (fun x => tx x.2) = Tr.toks n t) :
    (fst 0 0 0 [] (Tr.toks n t) = none ∧ ∃ s2, rdWhole (rdStart (tx (loose ps e))) = .ok s2 ∧ s2.marks = kmk (Tr.marks n [] t)) ∨
    ∃ j tok, fst 0 0 0 [] (Tr.toks n t) = some j ∧ (placed 0 ps)[j]? = some tok ∧ rdWhole (rdStart (tx (loose ps e))) = .error tok.1 := by
  have et : (rdStart (tx (loose ps e))).toks = placed 0 ps := by
    show toks 0 (tx (loose ps e)).cps.toList = _
    rw [tx_cps, toks_of_loose ho hp]
  have ea : (rdStart (tx (loose ps e))).ah = placed 0 ps ++ [] := by
    show (rdStart (tx (loose ps e))).toks.drop 0 = _
    rw [et, List.drop_zero, List.append_nil]
  have tw' : (placed 0 ps).map tw = Tr.toks n t := by rw [placed_tw, hp]
  rcases Tr.sim_tab n t ho hR [] 4 (rdStart (tx (loose ps e))) (placed 0 ps) [] 0 [] rfl (Nat.zero_le _) (Nat.zero_le _) ea tw' (fun q hq => by cases hq) with ⟨e1, _, _, w⟩ | ⟨j, tok, hj, e1, w⟩
  · left
    have w0 := w []
    rw [List.append_nil, tw'] at w0
    refine ⟨w0, (rdStart (tx (loose ps e))).adv (placed 0 ps).length (Tr.marks n [] t) (Tr.nt n t) (Tr.nb n t), ?_, rfl⟩
    unfold rdWhole
    have e1' : rdTable 4 [] (rdStart (tx (loose ps e))) = _ := e1
    rw [e1']
    show (if _ then _ else _) = _
    rw [if_neg]
    show ¬ 0 + (placed 0 ps).length < (rdStart (tx (loose ps e))).toks.length
    rw [et]
    omega
  · right
    have w0 := w []
    rw [List.append_nil, tw', Nat.zero_add] at w0
    refine ⟨j, tok, w0, hj, ?_⟩
    unfold rdWhole
    have e1' : rdTable 4 [] (rdStart (tx (loose ps e))) = _ := e1
    rw [e1']
    rfl
end L2.G42

set_option Elab.async false
set_option linter.all false
set_option maxRecDepth 100000
set_option maxHeartbeats 4000000
/-! == of dicts with tuple keys -/
namespace L2.G42
open PySem PySem.Spec PySem.W PyProof.Rows PyProof.V PySem.Calls
section
variable {prog : Program} {w : World} {K : Type} [DecidableEq K] {knd : HeapKind prog w K} {A : Around} {E : Value → Shared → Prop} {s : Shared}
theorem samePairsH {nm : String} {a b : Addr} {xa xb : List (K × Addr × Value)} {r : Bool} {Q : Bool → Shared → Prop} (ha : (a == sysModules) = false) (hb : (b == sysModules) = false) (hu : knd.room A)
    (da : s.heap.DictOfH knd a xa) (db : s.heap.DictOfH knd b xb) (hits : xa.length = xb.length → KeqHits A s (pairsH xb) (pairsH xa) r) (h : Q (xa.length == xb.length && r) s) :
    wpAny (model prog w) A (Builtin.Dict.samePairs nm a b) Q E s := by
  obtain ⟨oa, es, ep, hoa, _, hda, hea, hia, hna⟩ := da
  obtain ⟨ob, es', ep', hob, _, hdb, heb, hib, hnb⟩ := db
  have hla : xa.length = es.size := (size_of_entries hea).symm
  have hlb : xb.length = es'.size := (size_of_entries heb).symm
  rw [hla, hlb] at h
  unfold Builtin.Dict.samePairs Builtin.Dict.showsAll
  rw [if_neg (show ¬ (a == sysModules) = true by rw [ha]; exact Bool.false_ne_true), if_neg (show ¬ (b == sysModules) = true by rw [hb]; exact Bool.false_ne_true)]
  refine wpAny_bind (wpAny_pure (wpAny_bind (wpAny_pure ?_)))
  refine wpAny_bind (wpAny_dictEntries hoa hda ?_)
  dsimp only
  refine wpAny_bind (wpAny_dictEntries hob hdb ?_)
  by_cases hsz : es.size = es'.size
  case neg =>
    rw [if_pos (by simpa using hsz)]
    have hbf : (es.size == es'.size) = false := by simpa using hsz
    rw [hbf, Bool.false_and] at h
    exact wpAny_bind (wpAny_rule (wpAny_pure h))
  case pos =>
    have h' : Q r s := by simpa [hsz] using h
    have hits' := hits (by rw [hla, hlb]; exact hsz)
    rw [if_neg (by rw [hsz]; simp)]
    refine wpAny_bind (wpAny_dictEpoch hoa hda ?_)
    refine wpAny_bind ?_
    rw [Std.Legacy.Range.forIn_eq_forIn_range']
    simp only [Std.Legacy.Range.size, Nat.sub_zero, Nat.add_sub_cancel, Nat.div_one]
    refine wpAny_forIn_list _
      (fun rest q s' => s' = s ∧ q = (none, ()) ∧ ∃ i, rest = List.range' i (es.size - i) ∧ i ≤ es.size ∧ KeqHits A s (pairsH xb) (pairsH (xa.drop i)) r)
      _ ?_ ?_ _ _ ⟨rfl, rfl, 0, by simp, Nat.zero_le _, hits'⟩
    · rintro x rest q s' ⟨rfl, rfl, i, hr, hi, hpre⟩
      have hlt : i < es.size := by
        rcases Nat.lt_or_ge i es.size with h | h
        · exact h
        · rw [Nat.sub_eq_zero_of_le h] at hr; simp at hr
      obtain ⟨rfl, hrest⟩ : x = i ∧ rest = List.range' (i + 1) (es.size - (i + 1)) := by
        have e : es.size - i = (es.size - (i + 1)) + 1 := by omega
        rw [e, List.range'_succ] at hr
        injection hr with h1 h2
        exact ⟨h1, h2⟩
      refine wpAny_bind (wpAny_dictEntries hoa hda ?_)
      have hlt' : x < xa.length := by rw [hla]; exact hlt
      obtain ⟨k, c, v, hkv⟩ : ∃ k c v, xa[x] = (k, c, v) := ⟨_, _, _, rfl⟩
      have hdrop : xa.drop x = (k, c, v) :: xa.drop (x + 1) := by rw [← hkv]; exact List.drop_eq_getElem_cons hlt'
      rw [entry_at hea x, List.getElem?_eq_getElem hlt', hkv]
      rw [hdrop] at hpre
      show wpAny _ _ (holding [Value.ref c, v] _ >>= _) _ _ _
      have hk : knd.is s'.heap k c := hia (k, c, v) (by rw [← hkv]; exact List.getElem_mem hlt')
      refine wpAny_bind (wpAny_holding (wpAny_bind (wpAny_dictFind_heap hu hk hob hdb heb hib hnb (fun hno => ?_) fun j p hj => ?_)))
      · have hn : valueAt (pairsH xb) k = none := by rw [valueAt_pairsH, atKey_none_of_get hno]; rfl
        rcases KeqHits.inv (k := k) (v := v) (r := pairsH (xa.drop (x + 1))) hpre with ⟨_, er⟩ | ⟨y, _, _, hy, _⟩
        · rw [er] at h'
          refine wpAny_pure ?_
          show wpAny _ _ (if (!false) = true then _ else _) _ _ _
          rw [if_pos (by decide)]
          exact wpAny_pure (wpAny_pure h')
        · rw [hn] at hy; exact nomatch hy
      · have hv' : valueAt (pairsH xb) k = some p.2 := by rw [valueAt_pairsH, atKey_of_get hnb hj]; rfl
        refine wpAny_bind (wpAny_dictEntries hob hdb ?_)
        rw [entry_at heb j, hj]
        rcases KeqHits.inv (k := k) (v := v) (r := pairsH (xa.drop (x + 1))) hpre with ⟨hn, _⟩ | ⟨y, e, b', hy, he, hrr, er⟩
        · rw [hv'] at hn; exact nomatch hn
        · have ey : p.2 = y := Option.some.inj (hv'.symm.trans hy)
          rw [← ey] at he
          refine wpAny_holding (he _ _ _ _ ?_)
          cases e with
          | false =>
            rw [er, Bool.false_and] at h'
            show wpAny _ _ (if (!false) = true then _ else _) _ _ _
            rw [if_pos (by decide)]
            exact wpAny_pure (wpAny_pure h')
          | true =>
            rw [Bool.true_and] at er
            rw [← er] at hrr
            show wpAny _ _ (if (!true) = true then _ else _) _ _ _
            rw [if_neg (by decide)]
            refine wpAny_bind (wpAny_dictEpoch hoa hda ?_)
            rw [if_neg (by simp)]
            exact wpAny_pure ⟨rfl, rfl, x + 1, hrest, hlt, hrr⟩
    · rintro q s' ⟨rfl, rfl, i, hr, hi, hpre⟩
      have hin : i = es.size := by
        rcases Nat.lt_or_ge i es.size with h | h
        · have e : es.size - i = (es.size - (i + 1)) + 1 := by omega
          rw [e, List.range'_succ] at hr; exact nomatch hr
        · exact Nat.le_antisymm hi h
      refine wpAny_pure ?_
      rw [hin, ← hla, List.drop_length] at hpre
      cases hpre
      exact h'
theorem keqH_eq {a b : Addr} {xa xb : List (K × Addr × Value)} {r : Bool} {Q : Value → Shared → Prop} (ha : (a == sysModules) = false) (hb : (b == sysModules) = false) (hk : knd.room A.in1)
    (da : s.heap.DictOfH knd a xa) (db : s.heap.DictOfH knd b xb) (hu : A.units < cLine) (hits : xa.length = xb.length → KeqHits A.in1 s (pairsH xb) (pairsH xa) r) (h : Q (.bool (xa.length == xb.length && r)) s) :
    wpAny (model prog w) A (compareOp .Eq (.ref a) (.ref b)) Q E s := by
  refine wpAny_richCompare_same_room (op := .Eq) da.typeIs db.typeIs PySem.F.slot_dict_eq (wpAny_call_entry PySem.F.slot_dict_eq da.typeIs PySem.F.entry_dict_eq ?_ (PySem.F.args_dict_eq_2 _ _)) hu
  show wpAny _ _ (Builtin.Dict.dictSlotArgs "__eq__" ⟨[.ref a, .ref b], []⟩ >>= _) _ _ s
  refine wpAny_bind ?_
  unfold Builtin.Dict.dictSlotArgs
  refine wpAny_bind (wpAny_notOrdered_dict da.typeIs ?_)
  show wpAny _ _ (pure (Value.ref a, Value.ref b)) _ _ s
  refine wpAny_pure ?_
  refine wpAny_bind (wpAny_isInstance (T := "dict") db.typeIs PySem.F.sub_dict_dict ?_)
  simp only [Bool.not_true, Bool.false_eq_true, if_false]
  refine wpAny_bind (wpAny_pure (wpAny_bind (wpAny_pure ?_)))
  refine wpAny_bind (samePairsH ha hb hk da db hits ?_)
  refine wpAny_pure ⟨_, rfl, ?_, ?_⟩
  · exact fun x => nomatch x
  · simpa using h
end
/-- two lists of marks have the same marks -/
def eqMs (ms ns : List (List Str × Str)) : Bool := ms.length == ns.length && ms.all fun q => decide (valV (kmk ns) (kp q.1) = some (V.str q.2))
def rEqT : R2 := fun x y H Q => ∃ a b ms ns, x = .ref a ∧ y = .ref b ∧ L2.Rd H a (.dT (kmk ms)) ∧ L2.Rd H b (.dT (kmk ns)) ∧ Q (.bl (eqMs ms ns)) H
theorem hits_ms {A : Around} {s : Shared} {H : Hp} {ns : List (List Str × Str)} {xb : List (List Key × Addr × Value)} (rb : KT H (kmk ns) xb) : ∀ {ms : List (List Str × Str)} {xa : List (List Key × Addr × Value)}, KT H (kmk ms) xa →
    KeqHits A s (pairsH xb) (pairsH xa) (ms.all fun q => decide (valV (kmk ns) (kp q.1) = some (V.str q.2)))
  | [], xa, ra => by
    cases ra
    exact .nil
  | q :: ms, xa, ra => by
    cases ra with
    | @cons p x ps qs h t =>
      obtain ⟨k, c, v⟩ := x
      obtain ⟨h1, _, h3⟩ := h
      have hk : kp q.1 = k := h1
      obtain ⟨tk, rfl⟩ : ∃ t, v = Value.str q.2 t := h3
      have rr : RelO (valV (kmk ns) (kp q.1)) (valueAt (pairsH xb) (kp q.1)) := by rw [valueAt_pairsH]; exact rb.val (kp q.1)
      rw [List.all_cons]
      cases e : valV (kmk ns) (kp q.1) with
      | none =>
        rw [e] at rr
        have : valueAt (pairsH xb) k = none := by
          rw [hk] at rr
          cases e2 : valueAt (pairsH xb) k with
          | none => rfl
          | some y => rw [e2] at rr; exact rr.elim
        rw [show decide ((none : Option V) = some (V.str q.2)) = false from rfl, Bool.false_and]
        exact .miss this
      | some y =>
        rw [e] at rr
        obtain ⟨u, hu, ru⟩ := rr.some_of
        rw [hk] at hu
        obtain ⟨z, rfl⟩ : ∃ z, y = V.str z := by
          have : ∀ l : List (List Str × Str), valV (kmk l) (kp q.1) = some y → ∃ z, y = V.str z := by
            intro l
            induction l with
            | nil => intro h; cases h
            | cons p l ih =>
              intro h
              by_cases hp : kp p.1 = kp q.1
              · rw [show kmk (p :: l) = (kp p.1, V.str p.2) :: kmk l from rfl, valV_pos hp] at h
                exact ⟨_, (Option.some.inj h).symm⟩
              · rw [show kmk (p :: l) = (kp p.1, V.str p.2) :: kmk l from rfl, valV_neg hp] at h
                exact ih h
          exact this ns e
        obtain ⟨tu, rfl⟩ := ru
        have e2 : decide (some (V.str z) = some (V.str q.2)) = decide (q.2 = z) := by
          by_cases h : q.2 = z
          · rw [h]; simp
          · rw [decide_eq_false h]
            refine decide_eq_false fun e => h ?_
            injection e with e
            injection e with e
            exact e.symm
        rw [e2]
        exact .hit hu (fun _ _ _ _ h => wpAny_eqBool_str h) (hits_ms rb t)
theorem op_eqT {X : Cx} (hu : X.A.units + 1 < cLine) : OpR X (compareOp .Eq) rEqT := by
  intro pins s σ H x y v u Q I rx ry h
  obtain ⟨a, b, ms, ns, rfl, rfl, ea, eb, q⟩ := h
  obtain rfl : v = Value.ref a := rx
  obtain rfl : u = Value.ref b := ry
  obtain ⟨_, ya, xa, ra, da⟩ := dt_rd I.hok ea
  obtain ⟨_, yb, xb, rb, db⟩ := dt_rd I.hok eb
  have la : xa.length = ms.length := by have := Paired.length ra; unfold kmk at this; simpa using this.symm
  have lb : xb.length = ns.length := by have := Paired.length rb; unfold kmk at this; simpa using this.symm
  exact keqH_eq ya yb (tupleKind_room_in1 hu) da db (by omega) (fun _ => hits_ms rb ra) (fin_bl I q (by unfold eqMs; rw [la, lb]))
end L2.G42

set_option Elab.async false
set_option linter.all false
set_option maxRecDepth 100000
set_option maxHeartbeats 4000000
/-! o == y, o != y by an own __eq__ -/
namespace L2.G42
open PySem PySem.Spec PyProof.Rows
section
variable {X : Cx} {CX : CXT} {n k j : Nat} {C f : Addr} {fd : FuncData} {ps : List Str} {sp : Sp} {E : XK}
def rEqO (K : PySem.W.Frag) (C : Addr) (sp : Sp) (E : XK) : R2 := fun x y H Q => ∃ a dx fs t, x = .ref a ∧ H a = some (.ins C dx fs) ∧ TyX K H y t ∧ PySem.W.notFirst K C t = true ∧ sp [x, y] H Q E
def rNeO (K : PySem.W.Frag) (C : Addr) (sp : Sp) (E : XK) : R2 := fun x y H Q => ∃ a dx fs t, x = .ref a ∧ H a = some (.ins C dx fs) ∧ TyX K H y t ∧ PySem.W.notFirst K C t = true ∧ sp [x, y] H (fun v H' => ∃ b : Bool, v = .bl b ∧ Q (.bl (!b)) H') E
theorem op_eqO_ (F : FnOk X.prog X.w X.K X.mg X.base CX n f fd ps sp) (hs : PySem.W.findIn X.K (.ref C) "__eq__" = some (some (.ref f))) (hf : PySem.W.isFn X.K (.ref f) = true) (hb : Binds X.K fd ps []) (hr : Room n X.A) (hx : Passes CX X E) :
    OpR X (compareOp .Eq) (rEqO X.K C sp E) := by
  intro pins s σ H x y u v Q I rx ry h
  obtain ⟨a, dx, fs, t, rfl, ha, ty, nf, hsp⟩ := h
  have rx' := rx
  cases rx
  obtain ⟨mA, J, _⟩ := ins_get I.hok ha
  obtain ⟨od, J, _⟩ := J.look
  obtain ⟨m, hF⟩ := I.fr
  obtain ⟨P, kx, hP, _⟩ := kit_of I ry ty
  exact PySem.W.cmp_K (op := .Eq) hr.units0 hF I.ok.mod.kin J (kx.ty _ _ I.kIn hP) nf hs hf (own_call F hb hr hx I rx' ry hsp)
theorem own_call1 {pins : List (Addr × Obj)} {s : Shared} {σ : St} {H : Hp} {x y : V} {u v : Value} {Q : VK} (F : FnOk X.prog X.w X.K X.mg X.base CX n f fd ps sp) (hb : Binds X.K fd ps []) (hr : Room (n + 1) X.A) (hx : Passes CX X E)
    (I : Inv X pins σ H s) (rx : RelV x u) (ry : RelV y v) (hsp : sp [x, y] H (fun v H' => ∃ b : Bool, v = .bl b ∧ Q (.bl (!b)) H') E) :
    wpAny (model X.prog X.w) X.A.in1 (call (.ref f) [u, v]) (fun r s' => ∃ b, r = .bool b ∧ EP X pins σ Q (.bool (!b)) s') X.xe s := by
  have hl := F.len _ _ _ _ hsp
  have r2 : Vals [x, y] [u, v] := .cons rx (.cons ry .nil)
  refine wpAny_call (codeAny_mono (F.run X.A.in1 X.stack s H ⟨[u, v], []⟩ [u, v] [x, y] _ E hr.in1 (env_in1 I) (by
    have := hb s [u, v] I.kIn (by simpa using hl)
    simpa using this) r2 hsp) fun r s' hq => ?_)
  cases r with
  | error e => exact hx pins σ H s e s' I hq
  | ok fl =>
    cases fl with
    | ret w =>
      obtain ⟨z, H', I', rz, b, rfl, q⟩ := I.after hq
      cases rz
      exact ⟨b, rfl, .bl _, H', I', rfl, q⟩
    | next => exact False.elim hq
    | brk => exact False.elim hq
    | cont => exact False.elim hq
end
section
variable {prog : Program} {w : World} {A : Around} {E : Value → Shared → Prop} {s : Shared} {K : PySem.W.Frag} {x C f : Addr} {y tb : Value} {ox : Obj} {od : Option Obj}
theorem ne_entryO (X : K.In s.heap) (I : PySem.W.InstAt s.heap x ox C od) (hs : PySem.W.findIn K (.ref C) "__eq__" = some (some (.ref f))) (hf : PySem.W.isFn K (.ref f) = true) (hu : A.units < cLine) {Q : Fin → Shared → Prop}
    (hcall : wpAny (model prog w) A (call (.ref f) [.ref x, y]) (fun v s' => ∃ b, v = .bool b ∧ Q (.done (.ret (.bool (!b)))) s') E s) :
    wpAny (model prog w) A (Builtin.«object.__ne__» ⟨[.ref x, y], []⟩) Q E s := by
  unfold Builtin.«object.__ne__»
  repeat (first
    | with_reducible refine wpAny_cRoomFor hu ?_
    | (refine wpAny_bind (m := callSpecialIfBound? (.ref x) (Str.ofString "__eq__") [y])
        (PySem.W.ifBound_K X I hs hf (wpAny_mono hcall (fun r s' hr => by
          obtain ⟨b, rfl, hq⟩ := hr
          repeat (first | exact hq | exact wpAny_pure hq | exact wpAny_truthy_bool hq | (refine wpAny_bind (m := truthy (.bool _)) (wpAny_truthy_bool ?_)) | wp_step)) fun _ _ e => e)))
    | wp_step)
theorem rc_neO {Q : Value → Shared → Prop} (X : K.In s.heap) (I : PySem.W.InstAt s.heap x ox C od) (hs : PySem.W.findIn K (.ref C) "__eq__" = some (some (.ref f))) (hf : PySem.W.isFn K (.ref f) = true)
    (hne : PySem.W.findIn K (.ref C) "__ne__" = some (some (.builtin "object.__ne__"))) (hob : PySem.W.mroIn K C (.type "object") = some true) (hT : PySem.W.Looks (model prog w) s.heap (typeOf y) tb)
    (hn : PySem.W.notFirst K C tb = true) (hu : A.units + 1 < cLine)
    (hcall : wpAny (model prog w) A.in1 (call (.ref f) [.ref x, y]) (fun v s' => ∃ b, v = .bool b ∧ Q (.bool (!b)) s') E s) :
    wpAny (model prog w) A (richCompare .NotEq (.ref x) y) Q E s := by
  simp only [richCompare, cmpInfo_NotEq, oneThing_ref]
  refine wpAny_holding (wpAny_bind (wpAny_cRoomFor (Nat.lt_of_succ_lt hu) ?_))
  have hn' : (Value.ref C) = tb ∨ PySem.W.subIn K tb (.ref C) = some false := by
    rcases Bool.or_eq_true_iff.mp hn with e | e
    · exact .inl (beq_iff_eq.mp e).symm
    · exact .inr (beq_iff_eq.mp e)
  refine wpAny_bind (I.type.here (wpAny_bind (hT.here (first_no X hn' ?_))))
  simp only [Bool.false_eq_true, if_false, Bool.not_false, if_true]
  refine wpAny_bind ?_
  simp only [tryCompare]
  refine wpAny_bind (ifBound_b F.cmp_object.ne X I hne (wpAny_call (codeAny_call_builtin F.cmp_object.ne.plain F.cmpEntry_ne (PySem.W.check_slot F.cmpKind_ne F.cmpSplit_ne (I.type.andThen (PySem.W.looks_mroIn X hob)) (F.cmpArgs_ne _ _) (ne_entryO (A := A.in1) X I hs hf hu (wpAny_mono hcall (fun v s' hv => ?_) fun _ _ e => e))))))
  obtain ⟨b, rfl, hq⟩ := hv
  exact ⟨b, rfl, wpAny_pure (wpAny_pure hq)⟩
end
/-- the class at C has an own __eq__ -/
structure OwnEq (P : Program) (w : World) (K : PySem.W.Frag) (mg : Str → Option Value) (base : Heap) (k : Nat) (C : Addr) (sp : Sp) : Prop where
  ex : ∃ (f : Addr) (fd : FuncData) (ps : List Str), FnOk P w K mg base CX0 k f fd ps sp ∧ PySem.W.findIn K (.ref C) "__eq__" = some (some (.ref f)) ∧ PySem.W.isFn K (.ref f) = true ∧ Binds K fd ps []
  ne : PySem.W.findIn K (.ref C) "__ne__" = some (some (.builtin "object.__ne__"))
  ob : PySem.W.mroIn K C (.type "object") = some true
section
variable {X : Cx} {k j : Nat} {C : Addr} {sp : Sp} {K : PySem.W.Frag}
theorem op_eqO (hK : X.K = K) (c : OwnEq X.prog X.w K X.mg X.base k C sp) (hr : Room j X.A) (hk : k ≤ j) : OpR X (compareOp .Eq) (rEqO K C sp E0) := by
  subst hK
  obtain ⟨f, fd, ps, F, h1, h2, h3⟩ := c.ex
  exact op_eqO_ F h1 h2 h3 (hr.mono hk) pass0
theorem op_neO (hK : X.K = K) (c : OwnEq X.prog X.w K X.mg X.base k C sp) (hr : Room j X.A) (hk : k + 1 ≤ j) : OpR X (compareOp .NotEq) (rNeO K C sp E0) := by
  subst hK
  obtain ⟨f, fd, ps, F, h1, h2, h3⟩ := c.ex
  intro pins s σ H x y u v Q I rx ry h
  obtain ⟨a, dx, fs, t, rfl, ha, ty, nf, hsp⟩ := h
  have rx' := rx
  cases rx
  obtain ⟨mA, J, _⟩ := ins_get I.hok ha
  obtain ⟨od, J, _⟩ := J.look
  obtain ⟨P, kx, hP, _⟩ := kit_of I ry ty
  have hu := hr.units
  exact rc_neO I.kIn J h1 h2 c.ne c.ob (kx.ty _ _ I.kIn hP) nf (by omega) (own_call1 F h3 (hr.mono hk) pass0 I rx' ry hsp)
end
/-- what is no book -/
structure BkNo (K : PySem.W.Frag) (BK : Addr) (t : String) : Prop where
  nf : PySem.W.notFirst K BK (.type t) = true
  no : PySem.W.kitOne K (.type t) (.ref BK) = some false
/-- a book's type -/
structure BkTy (K : PySem.W.Frag) (BK : Addr) : Prop where
  cl : Cls K BK
  ha : PySem.W.findIn K (.ref BK) "__class__" = some (some (.builtin "object.__class__"))
  hn : PySem.W.specialIn K (.builtin "object.__class__") "__get__" = some (some (.builtin "getset_descriptor.__get__"))
  tk : PySem.W.takesIn K (.builtin "object.__class__") = some true
  ob : PySem.W.mroIn K BK (.type "object") = some true
  is : PySem.W.kitOne K (.ref BK) (.ref BK) = some true
theorem BkTy.ty {K : PySem.W.Frag} {BK : Addr} (T : BkTy K BK) {H : Hp} {a dx : Addr} {fs : List (Str × V)} (e : H a = some (.ins BK dx fs)) : TyX K H (.ref a) (.ref BK) := .base (.ins e T.cl T.ha T.hn T.tk T.ob)
theorem nf_self {K : PySem.W.Frag} {C : Addr} : PySem.W.notFirst K C (.ref C) = true := by simp [PySem.W.notFirst]
/-- __eq__ -/
def spBEq (K : PySem.W.Frag) (BK : Addr) : Sp := fun vs H Q _ => ∃ (b D : Addr) (n : Nat) (t : Tr n) (y : V), vs = [.ref b, y] ∧ BkTr BK H b D n t ∧
  ((∃ (c D' : Addr) (n' : Nat) (t' : Tr n'), y = .ref c ∧ BkTr BK H c D' n' t' ∧ Q (.bl (eqMs (Tr.marks n [] t) (Tr.marks n' [] t'))) H) ∨ (∃ ty, TyX K H y (.type ty) ∧ BkNo K BK ty ∧ Q (.bl false) H))
end L2.G42

set_option Elab.async false
set_option linter.all false
set_option maxRecDepth 100000
set_option maxHeartbeats 4000000
namespace L2.G42
open PySem PySem.Spec
/-! what is new in H', beside G in H -/
def ext (G H H' : Hp) : Hp := fun b => match H b with
  | some _ => G b
  | none => H' b
theorem ext_old {G H H' : Hp} {b : Addr} (h : H b ≠ none) : ext G H H' b = G b := by
  unfold ext
  cases e : H b with
  | none => exact absurd e h
  | some o => rfl
theorem ext_new {G H H' : Hp} {b : Addr} (h : H b = none) : ext G H H' b = H' b := by
  unfold ext
  rw [h]
theorem ext_part {G H H' : Hp} (p : Part G H) (g : But (fun _ => False) H H') : Part (ext G H H') H' := fun b o e => by
  by_cases h : H b = none
  · rw [ext_new h] at e; exact e
  · rw [ext_old h] at e; exact g b o (p b o e) id
theorem ext_left {G H H' : Hp} (p : Part G H) : Part G (ext G H H') := fun b o e => by
  rw [ext_old (by rw [p b o e]; simp)]; exact e
theorem ext_grow {G H H1 H2 : Hp} (g : But (fun _ => False) H1 H2) : Part (ext G H H1) (ext G H H2) := fun b o e => by
  by_cases h : H b = none
  · rw [ext_new h] at e ⊢; exact g b o e id
  · rw [ext_old h] at e ⊢; exact e
theorem ext_ext {G H H1 H2 : Hp} (g : But (fun _ => False) H H1) (g2 : But (fun _ => False) H1 H2) : Part (ext (ext G H H1) H1 H2) (ext G H H2) := fun b o e => by
  by_cases h1 : H1 b = none
  · rw [ext_new h1] at e
    rw [ext_new (g.free h1)]
    exact e
  · rw [ext_old h1] at e
    exact ext_grow g2 b o e
theorem ext_self {G H : Hp} (p : Part G H) : Part G (ext G H H) := ext_left p
namespace Tr
/-! all entries in the opposite order -/
def opp : (n : Nat) → Tr n → Tr n
  | _, .inl k => .inl k
  | 0, .inr x => nomatch x
  | n + 1, .inr (m, es) => tab m (es.reverse.map fun e => (e.1, opp n e.2))
section
variable {n : Nat} {m k : Str} {es : List (Str × Tr n)} {p : List Str}
theorem opp_bag : opp n (bag k) = bag k := by cases n <;> rfl
theorem opp_tab : opp (n + 1) (tab m es) = tab m (es.reverse.map fun e => (e.1, opp n e.2)) := rfl
end
theorem diff_snd {α β : Type} {g : Str × α → β} {es : List (Str × α)} (h : DiffBy (·.1) es) : DiffBy (·.1) (es.map fun e => (e.1, g e)) := List.pairwise_map.mpr (List.Pairwise.imp (fun {a b} h e => h e) h)
theorem ok_opp : ∀ (n : Nat) (t : Tr n), Ok n t → Ok n (opp n t) := by
  refine ind (fun n k h => by rw [opp_bag]; exact h) (fun n m es ih ho => ?_)
  obtain ⟨hm, ne, hd, hes⟩ := ho
  rw [opp_tab]
  refine ⟨hm, by simpa using ne, diff_snd (hd.perm (List.reverse_perm es)), fun e he => ?_⟩
  obtain ⟨x, hx, rfl⟩ := List.mem_map.mp he
  have hx' := List.mem_reverse.mp hx
  exact ⟨(hes x hx').1, ih x hx' (hes x hx').2⟩
theorem few_opp : ∀ (n : Nat) (t : Tr n), Few n t → Few n (opp n t) := by
  refine ind (fun n k h => by rw [opp_bag]; exact h) (fun n m es ih ho => ?_)
  obtain ⟨h1, h2⟩ := ho
  rw [opp_tab]
  refine ⟨by simpa using h1, fun e he => ?_⟩
  obtain ⟨x, hx, rfl⟩ := List.mem_map.mp he
  have hx' := List.mem_reverse.mp hx
  exact ih x hx' (h2 x hx')
theorem sum_rev {α : Type} (f : α → Nat) (l : List α) : (l.reverse.map f).sum = (l.map f).sum := ((List.reverse_perm l).map f).sum_nat
theorem nt_opp : ∀ (n : Nat) (t : Tr n), nt n (opp n t) = nt n t := by
  refine ind (fun n k => by rw [opp_bag]) (fun n m es ih => ?_)
  rw [opp_tab, nt_tab, nt_tab, List.map_map]
  have e : es.reverse.map ((fun e => nt n e.2) ∘ fun e => (e.1, opp n e.2)) = es.reverse.map fun e => nt n e.2 := List.map_congr_left fun e he => ih e (List.mem_reverse.mp he)
  rw [e, sum_rev]
theorem nb_opp : ∀ (n : Nat) (t : Tr n), nb n (opp n t) = nb n t := by
  refine ind (fun n k => by rw [opp_bag]) (fun n m es ih => ?_)
  rw [opp_tab, nb_tab, nb_tab, List.map_map]
  have e : es.reverse.map ((fun e => nb n e.2) ∘ fun e => (e.1, opp n e.2)) = es.reverse.map fun e => nb n e.2 := List.map_congr_left fun e he => ih e (List.mem_reverse.mp he)
  rw [e, sum_rev]
theorem right_opp {n : Nat} {t : Tr n} (h : t.isRight = true) : (opp n t).isRight = true := by
  cases n with
  | zero => obtain ⟨k, rfl⟩ := tr_zero t; cases h
  | succ n =>
    rcases tr_cases t with ⟨k, rfl⟩ | ⟨m, es, rfl⟩
    · cases h
    · rfl
theorem srt_opp : ∀ (n : Nat) (t : Tr n), Ok n t → srt n (opp n t) = srt n t := by
  refine ind (fun n k h => by rw [opp_bag]) (fun n m es ih ho => ?_)
  obtain ⟨hm, ne, hd, hes⟩ := ho
  rw [opp_tab, srt_tab, srt_tab, List.map_map]
  have e : es.reverse.map ((fun e => (e.1, srt n e.2)) ∘ fun e => (e.1, opp n e.2)) = es.reverse.map fun e => (e.1, srt n e.2) := List.map_congr_left fun e he => by
    show (e.1, srt n (opp n e.2)) = _
    rw [ih e (List.mem_reverse.mp he) (hes e (List.mem_reverse.mp he)).2]
  rw [e]
  congr 1
  have hp : (es.reverse.map fun e => (e.1, srt n e.2)).Perm (es.map fun e => (e.1, srt n e.2)) := (List.reverse_perm es).map _
  have d1 : DiffBy (·.1) (es.map fun e => (e.1, srt n e.2)) := diff_snd hd
  exact srtBy_uniq tot_ltS ((srtBy_perm _).trans hp) (srtBy_up tot_ltS (d1.perm hp))
/-! another mark at a place -/
def chg : (n : Nat) → Tr n → List Str → Str → Tr n
  | _, .inl k, [], mk => .inl mk
  | _, .inl k, _ :: _, _ => .inl k
  | 0, .inr x, _, _ => nomatch x
  | n + 1, .inr (m, es), [], mk => tab mk es
  | n + 1, .inr (m, es), x :: p, mk => tab m (es.map fun e => (e.1, if e.1 = x then chg n e.2 p mk else e.2))
/-- there is such a place -/
def At : (n : Nat) → Tr n → List Str → Prop
  | _, _, [] => True
  | _, .inl _, _ :: _ => False
  | 0, .inr x, _ :: _ => nomatch x
  | n + 1, .inr (_, es), x :: p => ∃ e ∈ es, e.1 = x ∧ At n e.2 p
/-- what may stand there instead -/
def Fit : (n : Nat) → Tr n → List Str → Str → Prop
  | _, .inl _, [], mk => mk ∈ kinds
  | _, .inl _, _ :: _, _ => True
  | 0, .inr x, _, _ => nomatch x
  | n + 1, .inr _, [], mk => mk ∈ modes
  | n + 1, .inr (_, es), x :: p, mk => ∀ e ∈ es, e.1 = x → Fit n e.2 p mk
section
variable {n : Nat} {m k mk x : Str} {es : List (Str × Tr n)} {p : List Str}
theorem chg_bag0 : chg n (bag k) [] mk = bag mk := by cases n <;> rfl
theorem chg_bag1 : chg n (bag k) (x :: p) mk = bag k := by cases n <;> rfl
theorem chg_tab0 : chg (n + 1) (tab m es) [] mk = tab mk es := rfl
theorem chg_tab1 : chg (n + 1) (tab m es) (x :: p) mk = tab m (es.map fun e => (e.1, if e.1 = x then chg n e.2 p mk else e.2)) := rfl
theorem at_nil {t : Tr n} : At n t [] = True := by cases n <;> cases t <;> rfl
theorem at_bag : At n (bag k) (x :: p) = False := by cases n <;> rfl
theorem at_tab : At (n + 1) (tab m es) (x :: p) = ∃ e ∈ es, e.1 = x ∧ At n e.2 p := rfl
theorem fit_bag0 : Fit n (bag k) [] mk = (mk ∈ kinds) := by cases n <;> rfl
theorem fit_tab0 : Fit (n + 1) (tab m es) [] mk = (mk ∈ modes) := rfl
theorem fit_tab1 : Fit (n + 1) (tab m es) (x :: p) mk = ∀ e ∈ es, e.1 = x → Fit n e.2 p mk := rfl
end
theorem ok_chg : ∀ (n : Nat) (t : Tr n) (p : List Str) (mk : Str), Ok n t → Fit n t p mk → Ok n (chg n t p mk) := by
  refine ind (fun n k p mk h f => ?_) (fun n m es ih p mk ho f => ?_)
  · cases p with
    | nil => rw [chg_bag0]; rw [fit_bag0] at f; rw [ok_bag]; exact f
    | cons x p => rw [chg_bag1]; exact h
  · obtain ⟨hm, ne, hd, hes⟩ := ho
    cases p with
    | nil => rw [chg_tab0]; exact ⟨f, ne, hd, hes⟩
    | cons x p =>
      rw [chg_tab1]
      refine ⟨hm, by simpa using ne, diff_snd hd, fun e he => ?_⟩
      obtain ⟨y, hy, rfl⟩ := List.mem_map.mp he
      refine ⟨(hes y hy).1, ?_⟩
      show Ok n (if y.1 = x then chg n y.2 p mk else y.2)
      by_cases e : y.1 = x
      · rw [if_pos e]; exact ih y hy p mk (hes y hy).2 (f y hy e)
      · rw [if_neg e]; exact (hes y hy).2
theorem few_chg : ∀ (n : Nat) (t : Tr n) (p : List Str) (mk : Str), Few n t → Few n (chg n t p mk) := by
  refine ind (fun n k p mk h => ?_) (fun n m es ih p mk ho => ?_)
  · cases p with
    | nil => rw [chg_bag0, few_bag]; trivial
    | cons x p => rw [chg_bag1]; exact h
  · obtain ⟨h1, h2⟩ := ho
    cases p with
    | nil => rw [chg_tab0]; exact ⟨h1, h2⟩
    | cons x p =>
      rw [chg_tab1]
      refine ⟨by simpa using h1, fun e he => ?_⟩
      obtain ⟨y, hy, rfl⟩ := List.mem_map.mp he
      show Few n (if y.1 = x then chg n y.2 p mk else y.2)
      by_cases e : y.1 = x
      · rw [if_pos e]; exact ih y hy p mk (h2 y hy)
      · rw [if_neg e]; exact h2 y hy
theorem nt_chg : ∀ (n : Nat) (t : Tr n) (p : List Str) (mk : Str), nt n (chg n t p mk) = nt n t := by
  refine ind (fun n k p mk => ?_) (fun n m es ih p mk => ?_)
  · cases p with
    | nil => rw [chg_bag0, nt_bag, nt_bag]
    | cons x p => rw [chg_bag1]
  · cases p with
    | nil => rw [chg_tab0, nt_tab, nt_tab]
    | cons x p =>
      rw [chg_tab1, nt_tab, nt_tab, List.map_map]
      congr 2
      refine List.map_congr_left fun y hy => ?_
      show nt n (if y.1 = x then chg n y.2 p mk else y.2) = _
      by_cases e : y.1 = x
      · rw [if_pos e]; exact ih y hy p mk
      · rw [if_neg e]
theorem nb_chg : ∀ (n : Nat) (t : Tr n) (p : List Str) (mk : Str), nb n (chg n t p mk) = nb n t := by
  refine ind (fun n k p mk => ?_) (fun n m es ih p mk => ?_)
  · cases p with
    | nil => rw [chg_bag0, nb_bag, nb_bag]
    | cons x p => rw [chg_bag1]
  · cases p with
    | nil => rw [chg_tab0, nb_tab, nb_tab]
    | cons x p =>
      rw [chg_tab1, nb_tab, nb_tab, List.map_map]
      congr 1
      refine List.map_congr_left fun y hy => ?_
      show nb n (if y.1 = x then chg n y.2 p mk else y.2) = _
      by_cases e : y.1 = x
      · rw [if_pos e]; exact ih y hy p mk
      · rw [if_neg e]
theorem form_chg : ∀ (n : Nat) (t : Tr n) (p : List Str) (mk : Str), form n (chg n t p mk) = form n t := by
  refine ind (fun n k p mk => ?_) (fun n m es ih p mk => ?_)
  · cases p with
    | nil => rw [chg_bag0, form_bag, form_bag]
    | cons x p => rw [chg_bag1]
  · cases p with
    | nil => rw [chg_tab0, form_tab, form_tab]
    | cons x p =>
      rw [chg_tab1, form_tab, form_tab, List.map_map]
      congr 3
      refine List.map_congr_left fun y hy => ?_
      show y.1 ++ Str.ofString ":" ++ form n (if y.1 = x then chg n y.2 p mk else y.2) = _
      by_cases e : y.1 = x
      · rw [if_pos e, ih y hy p mk]
      · rw [if_neg e]
theorem right_chg {n : Nat} {t : Tr n} (h : t.isRight = true) (p : List Str) (mk : Str) : (chg n t p mk).isRight = true := by
  cases n with
  | zero => obtain ⟨k, rfl⟩ := tr_zero t; cases h
  | succ n =>
    rcases tr_cases t with ⟨k, rfl⟩ | ⟨m, es, rfl⟩
    · cases h
    · cases p <;> rfl
theorem srt_chg : ∀ (n : Nat) (t : Tr n) (p : List Str) (mk : Str), Ok n t → srt n (chg n t p mk) = chg n (srt n t) p mk := by
  refine ind (fun n k p mk h => ?_) (fun n m es ih p mk ho => ?_)
  · cases p with
    | nil => rw [chg_bag0, srt_bag, srt_bag, chg_bag0]
    | cons x p => rw [chg_bag1, srt_bag, chg_bag1]
  · obtain ⟨hm, ne, hd, hes⟩ := ho
    cases p with
    | nil => rw [chg_tab0, srt_tab, srt_tab, chg_tab0]
    | cons x p =>
      rw [chg_tab1, srt_tab, srt_tab, chg_tab1, List.map_map]
      congr 1
      have e : es.map ((fun e => (e.1, srt n e.2)) ∘ fun e => (e.1, if e.1 = x then chg n e.2 p mk else e.2)) = (es.map fun e => (e.1, srt n e.2)).map fun e => (e.1, if e.1 = x then chg n e.2 p mk else e.2) := by
        rw [List.map_map]
        refine List.map_congr_left fun y hy => ?_
        show (y.1, srt n (if y.1 = x then chg n y.2 p mk else y.2)) = (y.1, if y.1 = x then chg n (srt n y.2) p mk else srt n y.2)
        by_cases e : y.1 = x
        · rw [if_pos e, if_pos e, ih y hy p mk (hes y hy).2]
        · rw [if_neg e, if_neg e]
      rw [e]
      have d1 : DiffBy (·.1) (es.map fun e => (e.1, srt n e.2)) := diff_snd hd
      exact srtBy_map tot_ltS (k := (·.1)) (k2 := (·.1)) (f := fun e : Str × Tr n => (e.1, if e.1 = x then chg n e.2 p mk else e.2)) (fun _ => rfl) d1
/-- the marks with another one at p -/
def remark (p : List Str) (mk : Str) (ms : List (List Str × Str)) : List (List Str × Str) := ms.map fun q => if q.1 = p then (q.1, mk) else q
theorem remark_none {p : List Str} {mk : Str} {ms : List (List Str × Str)} (h : ∀ q ∈ ms, q.1 ≠ p) : remark p mk ms = ms := by
  unfold remark
  have : ms.map (fun q => if q.1 = p then (q.1, mk) else q) = ms.map id := List.map_congr_left fun q hq => by rw [if_neg (h q hq)]; rfl
  rw [this, List.map_id]
theorem remark_fst (p : List Str) (mk : Str) (ms : List (List Str × Str)) : (remark p mk ms).map (·.1) = ms.map (·.1) := by
  unfold remark
  rw [List.map_map]
  refine List.map_congr_left fun q hq => ?_
  show (if q.1 = p then (q.1, mk) else q).1 = q.1
  split <;> rfl
theorem remark_flat {α : Type} (p : List Str) (mk : Str) (f : α → List (List Str × Str)) : ∀ l : List α, remark p mk (l.flatMap f) = l.flatMap fun x => remark p mk (f x)
  | [] => rfl
  | x :: l => by
    rw [List.flatMap_cons, List.flatMap_cons, ← remark_flat p mk f l]
    exact List.map_append
theorem marks_chg : ∀ (n : Nat) (t : Tr n) (q p : List Str) (mk : Str), marks n q (chg n t p mk) = remark (q ++ p) mk (marks n q t) := by
  refine ind (fun n k q p mk => ?_) (fun n m es ih q p mk => ?_)
  · cases p with
    | nil =>
      rw [chg_bag0, marks_bag, marks_bag, List.append_nil]
      show _ = [if q = q then (q, mk) else (q, k)]
      rw [if_pos rfl]
    | cons x p =>
      rw [chg_bag1, marks_bag]
      refine (remark_none fun y hy => ?_).symm
      rw [List.mem_singleton.mp hy]
      intro e
      have := congrArg List.length e
      simp at this
  · cases p with
    | nil =>
      rw [chg_tab0, marks_tab, marks_tab, List.append_nil]
      show _ = (if q = q then (q, mk) else (q, m)) :: remark q mk _
      rw [if_pos rfl, remark_none]
      intro y hy
      obtain ⟨e, he, hy⟩ := List.mem_flatMap.mp hy
      obtain ⟨r, er⟩ := marks_pre n e.2 _ y hy
      intro h
      rw [er] at h
      have := congrArg List.length h
      simp at this
    | cons x p =>
      rw [chg_tab1, marks_tab, marks_tab]
      show _ = (if q = q ++ x :: p then (q, mk) else (q, m)) :: remark (q ++ x :: p) mk _
      rw [if_neg (fun e => by have := congrArg List.length e; simp at this), remark_flat, List.flatMap_map]
      congr 1
      refine flatMap_same fun y hy => ?_
      show marks n (q ++ [y.1]) (if y.1 = x then chg n y.2 p mk else y.2) = _
      by_cases e : y.1 = x
      · rw [if_pos e, ih y hy (q ++ [y.1]) p mk, ← e, List.append_assoc]
        rfl
      · rw [if_neg e, remark_none]
        intro z hz
        obtain ⟨r, er⟩ := marks_pre n y.2 _ z hz
        rw [er]
        have := ne_keys (p := q) e r p
        rw [List.append_assoc q [x] p] at this
        exact this
end Tr
theorem eqMs_same {ms : List (List Str × Str)} (h : DiffBy (·.1) ms) : eqMs ms ms = true := by
  unfold eqMs
  rw [beq_self_eq_true, Bool.true_and, List.all_eq_true]
  intro q hq
  exact decide_eq_true (val_mem h hq)
theorem eqMs_other {ms ns : List (List Str × Str)} {q : List Str × Str} (hq : q ∈ ms) (h : valV (kmk ns) (kp q.1) ≠ some (V.str q.2)) : eqMs ms ns = false := by
  unfold eqMs
  rw [Bool.and_eq_false_iff]
  right
  rw [List.all_eq_false]
  exact ⟨q, hq, by rw [decide_eq_false h]; exact Bool.false_ne_true⟩
theorem eqMs_remark {ms : List (List Str × Str)} {p : List Str} {k mk : Str} (hd : DiffBy (·.1) ms) (h : (p, k) ∈ ms) (ne : k ≠ mk) : eqMs ms (Tr.remark p mk ms) = false := by
  refine eqMs_other h fun e => ne ?_
  have d2 : DiffBy (·.1) (Tr.remark p mk ms) := DiffBy.of (by rw [Tr.remark_fst]; exact hd.nd)
  have m2 : (p, mk) ∈ Tr.remark p mk ms := List.mem_map.mpr ⟨(p, k), h, by show (if p = p then (p, mk) else (p, k)) = _; rw [if_pos rfl]⟩
  rw [show kp (p, k).1 = kp p from rfl, val_mem d2 m2] at e
  injection e with e
  injection e with e
  exact e.symm
end L2.G42

set_option Elab.async false
set_option linter.all false
set_option maxRecDepth 100000
set_option maxHeartbeats 4000000
namespace L2.G42
open PySem PySem.Spec
theorem nu {H : Hp} {p b : Addr} {o u : HO} (h : H p = none) (e : H b = some u) : upd H p o b = some u := by rw [upd_ne (ne_of_none e h)]; exact e
theorem ext_mono {G H HB H1 H2 : Hp} (p : Part G H) (d : ∀ b, HB b = none → H b = none) (g : ∀ b o, HB b = none → H1 b = some o → H2 b = some o) : Part (ext G HB H1) (ext G H H2) := fun b o e => by
  by_cases h : HB b = none
  · rw [ext_new h] at e
    rw [ext_new (d b h)]
    exact g b o h e
  · rw [ext_old h] at e
    rw [ext_old (by rw [p b o e]; simp)]
    exact e
theorem ext_ext' {G H H1 H2 : Hp} (d : ∀ b, H1 b = none → H b = none) (g : ∀ b o, H b = none → H1 b = some o → H2 b = some o) : Part (ext (ext G H H1) H1 H2) (ext G H H2) := fun b o e => by
  by_cases h1 : H1 b = none
  · rw [ext_new h1] at e
    rw [ext_new (d b h1)]
    exact e
  · rw [ext_old h1] at e
    by_cases h : H b = none
    · rw [ext_new h] at e ⊢
      exact g b o h e
    · rw [ext_old h] at e ⊢
      exact e
theorem ext_partS {G H H' : Hp} {S : Addr → Prop} (p : Part G H) (hS : ∀ b, S b → G b = none) (g : But S H H') : Part (ext G H H') H' := fun b o e => by
  by_cases h : H b = none
  · rw [ext_new h] at e; exact e
  · rw [ext_old h] at e
    exact g b o (p b o e) fun s => by rw [hS b s] at e; cases e
theorem DpAll.rev {K : PySem.W.Frag} {H : Hp} : ∀ {vs : List V} {ds : List PyData}, DpAll K H vs ds → DpAll K H vs.reverse ds.reverse
  | [], [], _ => .nil
  | [], _ :: _, a => by cases a
  | _ :: _, [], a => by cases a
  | v :: vs, d :: ds, a => by
    cases a with
    | cons h t =>
      rw [List.reverse_cons, List.reverse_cons]
      exact DpAll.append (DpAll.rev t) (.cons h .nil)
end L2.G42

set_option Elab.async false
set_option linter.all false
set_option maxRecDepth 100000
set_option maxHeartbeats 4000000
namespace L2.G42
open PySem PySem.Spec
/-- Book.read(_law_loose(source, _law_tokens(item))[0]), behind the item -/
def rdItem (K : PySem.W.Frag) (BK B S : Addr) (n : Nat) (v : V) (H : Hp) (Q : VK) : Prop :=
  spToksT K n [v] H (fun x H1 => spLoose K [.ref S, x] H1 (fun y H2 => rIxT K y (.int 0) H2 fun z H3 => spRead K BK B [.ref BK, z] H3 Q E0) E0) E0
/-- the facts of an item that is read -/
structure Rdb (t : Tr 4) : Prop where
  r : t.isRight = true
  ok : Tr.Ok 4 t
  few : Tr.Few 4 t
  nt : Tr.nt 4 t ≤ 6
  nb : Tr.nb 4 t ≤ 6
theorem Rdb.rows {t : Tr 4} (h : Rdb t) : (Tr.rows 4 [] t).length ≤ 12 := by
  have h1 := h.nt
  have h2 := h.nb
  rw [Tr.rows_count]
  omega
theorem rd_item {K : PySem.W.Frag} {BK B S : Addr} {v : V} {t : Tr 4} {G H : Hp} {Q : VK} (pa : Part G H) (gS : G S = none) (dp : Dp K G v (Tr.dat 4 t)) (hR : Rdb t) (src : SrcAt H S)
    (k : ∀ (b D : Addr) (H' : Hp), H b = none → BkTr BK H' b D 4 (Tr.srt 4 t) → SrcAt H' S → But (· = S) H H' → Q (.ref b) H') : rdItem K BK B S 4 v H Q := by
  have few := hR.rows
  have hO := hR.ok
  have hTl := Tr.toks_len 4 t []
  refine ⟨v, t, rfl, Dp.part pa _ _ dp, by omega, fun tl H6 htl etl g56 => ?_⟩
  have src6 := SrcAt.but src g56
  have nSt : S ≠ tl := fun e => src_ne' src (e ▸ htl)
  refine ⟨S, tl, _, rfl, src6, SqL.of etl, nSt, by omega, Tr.toks_short _ t hO, fun p q ps e H7 hps hlen hp hq ep eq src7 b67 => ?_⟩
  obtain ⟨s3, er, em⟩ := read_loose rfl hR.r hO hR.few hR.nt hR.nb (e := e) hps
  refine ⟨p, _, _, _, rfl, rfl, SqT.of ep, rfl, .str (tx (loose ps e)), .str (tx (loose ps e)), rfl, .str _, .inr ⟨_, rfl, by rw [tx_len]; exact hlen, fun pp epp => (by rw [er] at epp; cases epp), fun s2 es2 => ?_⟩⟩
  rw [er] at es2
  injection es2 with es2
  subst es2
  refine ⟨Tr.marks 4 [] t, em, ⟨Tr.marks_diff hO [], by rw [Tr.marks_rows, List.length_map]; omega, let ⟨tl, e, _⟩ := Tr.marks_head 4 t []; ⟨_, tl, e, rfl⟩⟩, fun b D H8 hb hD BA g78 => ?_⟩
  rw [Tr.marks_sorted hO] at BA
  have b68 : But (· = S) H H8 := fun z o h n => g78 z o (b67 z o (g56 z o h id) n) id
  refine k b D H8 ?_ ⟨BA.ob, ⟨BA.ma, Tr.ok_srt _ _ hO, by rw [Tr.rows_srt _ _ hO]; omega, by decide⟩, by decide⟩ (SrcAt.but src7 g78) b68
  cases e : H b with
  | none => rfl
  | some o =>
    by_cases h : b = S
    · obtain ⟨c, st, n, es⟩ := src7
      rw [h, es] at hb
      cases hb
    · rw [b67 b o (g56 b o e id) h] at hb
      cases hb
/-- what stands on while only S changes -/
theorem BkTr.but {BK : Addr} {H H' : Hp} {b D S : Addr} {n : Nat} {t : Tr n} (h : BkTr BK H b D n t) (s : SrcAt H S) (g : But (· = S) H H') : BkTr BK H' b D n t := by
  obtain ⟨dx, e⟩ := h.ob
  obtain ⟨c, st, m, es⟩ := s
  refine ⟨⟨dx, g _ _ e (fun z => ?_)⟩, ⟨g _ _ h.ma.at_ (fun z => ?_), h.ma.ok, h.ma.few, h.ma.lv⟩, h.lv⟩
  · rw [z, es] at e; cases e
  · have := h.ma.at_
    rw [z, es] at this
    cases this
theorem But.src {H : Hp} {S : Addr} {o : HO} : But (· = S) H (upd H S o) := But.at (S := (· = S)) rfl
theorem Part.src {G H H' : Hp} {S : Addr} (p : Part G H) (h : G S = none) (g : But (· = S) H H') : Part G H' := p.but g fun b hb => by rw [hb]; exact h
theorem But.wk {S : Addr → Prop} {H H' : Hp} (g : But (fun _ => False) H H') : But S H H' := g.mono fun _ h => h.elim
theorem But.outer {S : Addr} {H0 H H' : Hp} (g : But (· = S) H H') (g0 : But (fun _ => False) H0 H) (hS : H0 S = none) : But (fun _ => False) H0 H' := fun z o h _ => g z o (g0 z o h id) (ne_of_none h hS)
/-- the heap within a law's turn: the source at S, the item within G, a book of t -/
structure Sta (BK : Addr) (H1 : Hp) (S : Addr) (G : Hp) (b D : Addr) (t : Tr 4) (H : Hp) : Prop where
  src : SrcAt H S
  pa : Part G H
  bt : BkTr BK H b D 4 (Tr.srt 4 t)
  g : But (fun _ => False) H1 H
theorem Sta.but {BK : Addr} {H1 : Hp} {S : Addr} {G : Hp} {b D : Addr} {t : Tr 4} {H H' : Hp} (h : Sta BK H1 S G b D t H) (gS : G S = none) (hS : H1 S = none) (g : But (· = S) H H') (s : SrcAt H' S) : Sta BK H1 S G b D t H' := ⟨s, h.pa.src gS g, h.bt.but h.src g, g.outer h.g hS⟩
theorem Sta.grow {BK : Addr} {H1 : Hp} {S : Addr} {G : Hp} {b D : Addr} {t : Tr 4} {H H' : Hp} (h : Sta BK H1 S G b D t H) (g : But (fun _ => False) H H') : Sta BK H1 S G b D t H' := ⟨SrcAt.but h.src g, h.pa.grow g, h.bt.grow g, h.g.trans g⟩
theorem ext_src {G H H' : Hp} {S : Addr} (s : SrcAt H S) (gS : G S = none) : ext G H H' S = none := by rw [ext_old (src_ne' s)]; exact gS
theorem Rdb.opp {t : Tr 4} (h : Rdb t) : Rdb (Tr.opp 4 t) := ⟨Tr.right_opp h.r, Tr.ok_opp _ _ h.ok, Tr.few_opp _ _ h.few, by rw [Tr.nt_opp]; exact h.nt, by rw [Tr.nb_opp]; exact h.nb⟩
theorem Rdb.chg {t : Tr 4} (h : Rdb t) {p : List Str} {mk : Str} (f : Tr.Fit 4 t p mk) : Rdb (Tr.chg 4 t p mk) := ⟨Tr.right_chg h.r _ _, Tr.ok_chg _ _ _ _ h.ok f, Tr.few_chg _ _ _ _ h.few, by rw [Tr.nt_chg]; exact h.nt, by rw [Tr.nb_chg]; exact h.nb⟩
end L2.G42

set_option Elab.async false
set_option linter.all false
set_option maxRecDepth 100000
set_option maxHeartbeats 4000000
namespace L2.G42
open PySem PySem.Spec
theorem diff_inj {α : Type} {es : List (Str × α)} (h : DiffBy (·.1) es) {a b : Str × α} (ha : a ∈ es) (hb : b ∈ es) (e : a.1 = b.1) : a = b := by
  induction es with
  | nil => cases ha
  | cons y es ih =>
    obtain ⟨h1, h2⟩ := List.pairwise_cons.mp h
    rcases List.mem_cons.mp ha with rfl | ha'
    · rcases List.mem_cons.mp hb with rfl | hb
      · rfl
      · exact absurd e (h1 b hb)
    · rcases List.mem_cons.mp hb with rfl | hb
      · exact absurd e.symm (h1 a ha')
      · exact ih h2 ha' hb
namespace Tr
theorem mark_srt : ∀ (n : Nat) (t : Tr n), mark n (srt n t) = mark n t := by
  refine ind (fun n k => by rw [srt_bag]) (fun n m es ih => ?_)
  rw [srt_tab, mark_tab, mark_tab]
theorem fit_left {n : Nat} {t : Tr n} (h : t.isLeft = true) {mk : Str} (hm : mk ∈ kinds) : Fit n t [] mk := by
  cases t with
  | inl k => cases n <;> exact hm
  | inr x => cases h
theorem fit_right {n : Nat} {t : Tr n} (h : t.isLeft = false) {mk : Str} (hm : mk ∈ modes) : Fit n t [] mk := by
  cases t with
  | inl k => cases h
  | inr x =>
    cases n with
    | zero => exact nomatch x
    | succ n => exact hm
theorem row_at : ∀ (n : Nat) (t : Tr n), Ok n t → ∀ q, ∀ r ∈ lrows n q t, ∃ p, r.pl = q ++ p ∧ At n t p ∧ (r.t.isLeft = true → ∀ mk ∈ kinds, Fit n t p mk) ∧ (r.t.isLeft = false → ∀ mk ∈ modes, Fit n t p mk) := by
  refine ind (fun n k h q r hr => ?_) (fun n m es ih ho q r hr => ?_)
  · rw [lrows_bag] at hr
    rw [List.mem_singleton.mp hr]
    exact ⟨[], (List.append_nil _).symm, by rw [at_nil]; trivial, fun h mk hm => fit_left h hm, fun h => by cases h⟩
  · rw [lrows_tab] at hr
    rcases List.mem_cons.mp hr with e1 | hr
    · rw [e1]
      exact ⟨[], (List.append_nil _).symm, by rw [at_nil]; trivial, (fun h => by cases h), fun h mk hm => fit_right h hm⟩
    · obtain ⟨y, hy, hr⟩ := List.mem_flatMap.mp hr
      have hy' := srtBy_mem.mp hy
      obtain ⟨p, h1, h2, h3, h4⟩ := ih y hy' (ho.2.2.2 y hy').2 _ r hr
      refine ⟨y.1 :: p, by rw [h1, List.append_assoc]; rfl, by rw [at_tab]; exact ⟨y, hy', rfl, h2⟩, fun h mk hm => ?_, fun h mk hm => ?_⟩
      · rw [fit_tab1]
        intro e he ee
        rw [diff_inj ho.2.2.1 he hy' ee]
        exact h3 h mk hm
      · rw [fit_tab1]
        intro e he ee
        rw [diff_inj ho.2.2.1 he hy' ee]
        exact h4 h mk hm
theorem lrow_mark {n : Nat} {t : Tr n} (ho : Ok n t) {r : Row} (hr : r ∈ lrows n [] t) : (r.pl, mark r.k r.t) ∈ marks n [] (srt n t) := by
  rw [marks_rows, rows_of_srt n t ho []]
  refine List.mem_map.mpr ⟨r.srt, List.mem_map.mpr ⟨r, hr, rfl⟩, ?_⟩
  show (r.pl, mark r.k (srt r.k r.t)) = _
  rw [mark_srt]
theorem filter_flat {α β : Type} (f : α → List β) (p : β → Bool) : ∀ l : List α, (l.flatMap f).filter p = l.flatMap fun x => (f x).filter p
  | [] => rfl
  | x :: l => by rw [List.flatMap_cons, List.flatMap_cons, List.filter_append, filter_flat f p l]
theorem bags_nb : ∀ (n : Nat) (t : Tr n), Ok n t → ∀ p, ((rows n p t).filter fun r => kinds.contains (mark r.k r.t)).length = nb n t := by
  refine ind (fun n k h p => ?_) (fun n m es ih ho p => ?_)
  · rw [rows_bag, nb_bag]
    rw [ok_bag] at h
    have : kinds.contains (mark n (bag (n := n) k)) = true := by rw [mark_bag]; exact List.contains_iff_mem.mpr h
    rw [List.filter_cons_of_pos (by exact this)]
    rfl
  · rw [rows_tab, nb_tab, List.filter_cons_of_neg (by show ¬ kinds.contains (mark (n + 1) (tab m es)) = true; rw [mark_tab, kinds_not ho.1]; exact Bool.false_ne_true), filter_flat, len_flatMap]
    congr 1
    exact List.map_congr_left fun e he => ih e he (ho.2.2.2 e he).2 _
end Tr
theorem lrow_so {t : Tr 4} (ho : Tr.Ok 4 t) {r : Row} (hr : r ∈ Tr.lrows 4 [] t) : SoAll r.pl := by
  have h := Tr.so_marks 4 (Tr.srt 4 t) (Tr.ok_srt 4 t ho) [] (fun x hx => by cases hx)
  exact h _ (Tr.lrow_mark ho hr)
theorem ne_pl {K : PySem.W.Frag} {H : Hp} {L L2 : Addr} {zs ys : List V} {ps : List (List Str)} {Q : VK} (h1 : SqL K H L zs) (h2 : SqL K H L2 ys) (p1 : PlAt H zs ps) (p2 : PlAt H ys ps) (so : ∀ p ∈ ps, SoAll p) (k : Q (.bl false) H) : rNeD K (.ref L) (.ref L2) H Q :=
  ⟨dPl ps, dPl ps, .lst h1 (dp_pl p1), .lst h2 (dp_pl p2), shaped_pl so, shaped_pl so, by rw [eqv_pl]; exact k⟩
theorem plGrow {H H' : Hp} (g : But (fun _ => False) H H') {vs : List V} {ps : List (List Str)} (h : PlAt H vs ps) : PlAt H' vs ps := PlAt.grow (S := fun _ => False) (fun _ h => h.elim) g h
theorem bag_D {K : PySem.W.Frag} {H : Hp} {n : Nat} {t : Tr n} {ex : V} (hb : t.isLeft = true) (hd : Dp K H ex (Tr.dat n t)) : ex = .str (Tr.mark n t) := by
  cases t with
  | inl k =>
    rw [show Tr.mark n (Sum.inl k) = k from Tr.mark_bag]
    exact dat_bag_inv hd
  | inr x => cases hb
theorem tab_D {K : PySem.W.Frag} {H : Hp} {n : Nat} {t : Tr n} {ex : V} (hb : t.isLeft = false) (hd : Dp K H ex (Tr.dat n t)) : ∃ a0 y, ex = .ref a0 ∧ SqL K H a0 [.str (Tr.mark n t), y] := by
  cases n with
  | zero =>
    obtain ⟨kd, rfl⟩ := Tr.tr_zero t
    cases hb
  | succ k =>
    rcases Tr.tr_cases t with ⟨kd, rfl⟩ | ⟨m, es, rfl⟩
    · cases hb
    · obtain ⟨a0, a1, evs, rfl, s0, s1, da⟩ := dat_tab_inv hd
      exact ⟨a0, .ref a1, rfl, s0⟩
theorem mark_in {n : Nat} {t : Tr n} (ho : Tr.Ok n t) : (t.isLeft = true → Tr.mark n t ∈ kinds) ∧ (t.isLeft = false → Tr.mark n t ∈ modes) := by
  cases t with
  | inl k =>
    refine ⟨fun _ => ?_, fun h => by cases h⟩
    rw [show Tr.mark n (Sum.inl k) = k from Tr.mark_bag]
    cases n <;> exact ho
  | inr x =>
    cases n with
    | zero => exact nomatch x
    | succ n => exact ⟨fun h => (nomatch h), fun _ => ho.1⟩
/-- the first key replaced by a new one -/
theorem fresh_tree {m fr : Str} {e0 : Str × Tr 3} {es : List (Str × Tr 3)} (h : Rdb (Tr.tab m (e0 :: es))) (hk : isKey fr = true) (hf : fr ∉ (e0 :: es).map (·.1)) :
    Rdb (Tr.tab m ((fr, e0.2) :: es)) ∧ eqMs (Tr.marks 4 [] (Tr.srt 4 (Tr.tab m (e0 :: es)))) (Tr.marks 4 [] (Tr.srt 4 (Tr.tab m ((fr, e0.2) :: es)))) = false ∧ Tr.nb 4 (Tr.tab m ((fr, e0.2) :: es)) = Tr.nb 4 (Tr.tab m (e0 :: es)) := by
  obtain ⟨hm, ne, hd, hes⟩ := h.ok
  obtain ⟨h1, h2⟩ := List.pairwise_cons.mp hd
  have ok2 : Tr.Ok 4 (Tr.tab m ((fr, e0.2) :: es)) := by
    refine ⟨hm, by simp, List.pairwise_cons.mpr ⟨fun y hy e => hf ?_, h2⟩, fun e he => ?_⟩
    · rw [show fr = y.1 from e]
      exact List.mem_map.mpr ⟨y, List.mem_cons_of_mem _ hy, rfl⟩
    · rcases List.mem_cons.mp he with rfl | he
      · exact ⟨hk, (hes e0 List.mem_cons_self).2⟩
      · exact hes e (List.mem_cons_of_mem _ he)
  have rb2 : Rdb (Tr.tab m ((fr, e0.2) :: es)) := by
    refine ⟨rfl, ok2, ⟨h.few.1, fun e he => ?_⟩, h.nt, h.nb⟩
    rcases List.mem_cons.mp he with rfl | he
    · exact h.few.2 e0 List.mem_cons_self
    · exact h.few.2 e (List.mem_cons_of_mem _ he)
  refine ⟨rb2, ?_, rfl⟩
  have m1 : ([e0.1], Tr.mark 3 e0.2) ∈ Tr.marks 4 [] (Tr.srt 4 (Tr.tab m (e0 :: es))) := by
    refine ((Tr.marks_srt 4 _ h.ok []).1.mem_iff).mpr ?_
    rw [Tr.marks_tab]
    refine List.mem_cons_of_mem _ (List.mem_flatMap.mpr ⟨e0, List.mem_cons_self, ?_⟩)
    obtain ⟨tl, e, _⟩ := Tr.marks_head 3 e0.2 ([] ++ [e0.1])
    rw [e]
    exact List.mem_cons_self
  refine eqMs_other m1 ?_
  rw [val_not]
  · intro e; cases e
  · intro q hq e
    have e := kp_inj e
    have hq := ((Tr.marks_srt 4 _ ok2 []).1.mem_iff).mp hq
    rw [Tr.marks_tab] at hq
    rcases List.mem_cons.mp hq with rfl | hq
    · cases e
    · obtain ⟨y, hy, hq⟩ := List.mem_flatMap.mp hq
      obtain ⟨r, er⟩ := Tr.marks_pre 3 y.2 _ q hq
      rw [er] at e
      have e1 : y.1 = e0.1 := by
        have : [] ++ [y.1] ++ r = y.1 :: r := rfl
        rw [this] at e
        injection e
      rcases List.mem_cons.mp hy with rfl | hy
      · exact hf (by rw [show fr = e0.1 from e1]; exact List.mem_cons_self)
      · exact h1 y hy e1.symm
theorem abcd_key : ∀ x ∈ (["a", "b", "c", "d"] : List Str), isKey x = true := by decide +kernel
/-- one of four is not among three -/
theorem fresh_of {ks : List Str} (h : ks.length ≤ 3) : ∃ x r, (["a", "b", "c", "d"] : List Str).filter (fun x => !ks.contains x) = x :: r := by
  cases e : (["a", "b", "c", "d"] : List Str).filter (fun x => !ks.contains x) with
  | cons x r => exact ⟨x, r, rfl⟩
  | nil =>
    exfalso
    have h1 : ∀ x ∈ (["a", "b", "c", "d"] : List Str), x ∈ ks := fun x hx => by
      have := List.filter_eq_nil_iff.mp e x hx
      simpa using this
    have nd : (["a", "b", "c", "d"] : List Str).Nodup := by decide +kernel
    have := List.Nodup.length_le_of_subset nd h1
    simp at this
    omega
end L2.G42
namespace L2.G42
open PySem
theorem kit_no {K : PySem.W.Frag} {t : String} {N : Addr} (h1 : PySem.W.subIn K (.type t) (.ref N) = some false) (h2 : PySem.W.isClsIn K N = true) (h3 : PySem.W.typeIn K (.ref N) = some (.type "type")) : PySem.W.kitOne K (.type t) (.ref N) = some false := by
  unfold PySem.W.kitOne
  have h2' : (PySem.W.clsIn K N).isSome = true := h2
  rw [if_neg (by simp)]
  show (if ((PySem.W.clsIn K N).isSome && PySem.W.typeIn K (.ref N) == some (.type "type")) = true then PySem.W.subIn K (.type t) (.ref N) else none) = some false
  rw [h2', h3, if_pos (by rfl), h1]
end L2.G42

set_option Elab.async false
set_option linter.all false
set_option maxRecDepth 100000
set_option maxHeartbeats 4000000
/-! errors of own classes over any built-in error, with an own __init__ -/
namespace L2.G42
open PySem PySem.Spec PyProof.Rows
/-- a built-in error that serves as a base -/
structure ExB (B newId initId : String) (bmB : List Value) : Prop where
  fb : ExcBaseFacts B newId initId bmB
  sf : StoreFacts B bmB "object.__setattr__" "object"
theorem exb_LE : ExB "LookupError" "LookupError.__new__" "LookupError.__init__" [.type "LookupError", .type "Exception", .type "BaseException", .type "object"] := ⟨F.excBase_LookupError, F.store_LookupError⟩
theorem exb_RE : ExB "RuntimeError" "RuntimeError.__new__" "RuntimeError.__init__" [.type "RuntimeError", .type "Exception", .type "BaseException", .type "object"] := ⟨F.excBase_RuntimeError, F.store_RuntimeError⟩
/-- an own class over it -/
structure OexB (K : PySem.W.Frag) (C : Addr) : Prop where
  cls : ∃ B newId initId bmB nm q N bs bm sn sub ab col dd k0 k1 k2 k3 k5, ExB B newId initId bmB ∧ K.lookup C = some (excClassObj nm q C N bs bm true sn sub ab col dd k0 k1 k2 k3 k5 newId) ∧ PySem.W.excTail bmB bm = true
  sa : PySem.W.findIn K (.ref C) "__setattr__" = some (some (.builtin "object.__setattr__"))
  exC : PySem.W.subIn K (.ref C) (.type "BaseException") = some true
  tyC : PySem.W.typeIn K (.ref C) = some (.type "type")
  kC : PySem.W.keepIn K (.ref C) = true
theorem taker_none {K : PySem.W.Frag} {C : Addr} {f : Str} (h : PySem.W.findIn K (.ref C) f = some none) : PySem.W.takerIn K C f = some none := by
  unfold PySem.W.takerIn
  rw [h]
  rfl
theorem cls_over {K : PySem.W.Frag} {C : Addr} {newId : String} {bmB : List Value} {nm q : Str} {N : Addr} {bs bm : List Value} {sn : List Str} {sub : List Value} {ab : Bool} {col : Option Bool} {dd : Option Addr} {k0 k1 k2 k3 k5 : Option Value}
    (hC : K.lookup C = some (excClassObj nm q C N bs bm true sn sub ab col dd k0 k1 k2 k3 k5 newId)) (ht : PySem.W.excTail bmB bm = true) :
    PySem.W.excOver K C bmB = true ∧ ∃ cd, PySem.W.clsIn K C = some cd ∧ cd.hasDict = true := by
  have hcl : PySem.W.clsIn K C = some { name := nm, bases := bs, mro := .ref C :: bm, ns := N, qualname := q, hasDict := true, slotNames := sn, subclasses := sub, abstract := ab, collection := col, hasDel := false } := by
    unfold PySem.W.clsIn
    rw [hC] <;> rfl
  refine ⟨?_, _, hcl, rfl⟩
  unfold PySem.W.excOver
  rw [hcl]
  show (C == C && PySem.W.excTail bmB bm) = true
  rw [beq_self_eq_true, ht]
  rfl
section
variable {prog : Program} {w : World} {A : Around} {R : Result → Shared → Prop} {hp : Heap} {g : Array GenState} {d : PySem.Drawn} {t : Nat} {os : OsState} {K : PySem.W.Frag} {name : Str} {tk : Tok} {v : Value} {x C t1 : Addr}
/-- the first attribute: its dict is made -/
theorem first_store {B newId initId : String} {bmB : List Value} {cd : ClassData} (E : ExB B newId initId bmB) (X : K.In hp) (hx : hp.get? x = some (PySem.W.excObj C t1 none .none)) (ov : PySem.W.excOver K C bmB = true) (hc : PySem.W.clsIn K C = some cd) (hh : cd.hasDict = true) (no : PySem.W.findIn K (.ref C) name = some none)
    (hq : ∀ h' tk' dx, (∀ b o, b ≠ x → hp.get? b = some o → h'.get? b = some o) → hp.objs.size ≤ dx → dx ≠ x → h'.get? x = some (PySem.W.excObj C t1 (some dx) .none) → h'.Ns1 dx (fun y => if y = name then some v else none) → R (.ok (.ret .none)) ⟨h', g, d, tk', os⟩) :
    codeAny (model prog w) A (.call (.builtin "object.__setattr__") ⟨[.ref x, .str name tk, v], []⟩) R ⟨hp, g, d, t, os⟩ := by
  have hxs : x ≠ hp.objs.size := Nat.ne_of_lt (Heap.lt_size hx)
  refine PySem.W.osa_openX (od := none) E.sf X ⟨hx, rfl, rfl, trivial⟩ ov (taker_none no) fun b => ?_
  refine wpAny_bind (wpAny_pure (wpAny_bind (PySem.W.instanceDict_exc hx (PySem.W.looks_clsIn X hc) hh ?_)))
  have hn0 : ((hp.push (PySem.W.dictOf [] 0)).update x fun o => { o with dict := some hp.objs.size }).Ns1 hp.objs.size (fun _ => none) :=
    Heap.Ns1.of_empty ⟨_, #[], _, (Heap.get?_update_ne _ _ _ _ hxs.symm).trans (Heap.get?_push_at rfl rfl), rfl, fun e he => absurd he (by simp), fun _ => rfl⟩
  refine PySem.OEX.store_in_old (ns := []) hn0 Within.nil (by decide) fun h' tk' hn' hs => ?_
  have hx1 : (hp.push (PySem.W.dictOf [] 0)).get? x = some (PySem.W.excObj C t1 none .none) := Heap.get?_push_of_some _ hx
  refine hq h' tk' hp.objs.size (fun b o hb ho => ?_) (Nat.le_refl _) hxs.symm ?_ hn'
  · exact (hs.2 b (Nat.ne_of_lt (Heap.lt_size ho))).trans ((Heap.get?_update_ne _ _ _ _ hb).trans (Heap.get?_push_of_some _ ho))
  · exact (hs.2 x hxs).trans (Heap.get?_update_self _ hx1 rfl)
end
end L2.G42

set_option Elab.async false
set_option linter.all false
set_option maxRecDepth 100000
set_option maxHeartbeats 4000000
namespace L2.G42
open PySem PySem.Spec PyProof.Rows
section
variable {prog : Program} {w : World} {A : Around} {R : Result → Shared → Prop} {hp : Heap} {g : Array GenState} {d : PySem.Drawn} {t : Nat} {os : OsState} {K : PySem.W.Frag} {name : Str} {tk : Tok} {v : Value} {x C t1 : Addr}
/-- a further attribute -/
theorem next_store {B newId initId : String} {bmB : List Value} {cd : ClassData} {dx : Addr} {m0 : Str → Option Value} {nl : List Str} (E : ExB B newId initId bmB) (X : K.In hp) (hx : hp.get? x = some (PySem.W.excObj C t1 (some dx) .none)) (hn : hp.Ns1 dx m0) (hw : Within m0 nl) (hz : nl.length ≤ 1000)
    (ov : PySem.W.excOver K C bmB = true) (hc : PySem.W.clsIn K C = some cd) (hh : cd.hasDict = true) (no : PySem.W.findIn K (.ref C) name = some none)
    (hq : ∀ h' tk', (∀ b o, b ≠ dx → hp.get? b = some o → h'.get? b = some o) → h'.Ns1 dx (fun y => if y = name then some v else m0 y) → R (.ok (.ret .none)) ⟨h', g, d, tk', os⟩) :
    codeAny (model prog w) A (.call (.builtin "object.__setattr__") ⟨[.ref x, .str name tk, v], []⟩) R ⟨hp, g, d, t, os⟩ := by
  obtain ⟨oD, esD, epD, hoD, hdD, _⟩ := hn.count hw
  refine PySem.W.osa_openX (od := some oD) E.sf X ⟨hx, rfl, rfl, hoD⟩ ov (taker_none no) fun b => ?_
  refine wpAny_bind (wpAny_pure (wpAny_bind (wpAny_bind (wpAny_loadPart hx (wpAny_bind ((PySem.W.looks_clsIn X hc).here ?_))))))
  rw [hh]
  refine wpAny_pure (a := some dx) ?_
  exact PySem.OEX.store_in_old hn hw hz fun h' tk' hn' hs => hq h' tk' (fun b o hb ho => (hs.2 b hb).trans ho) hn'
end
section
variable {X : Cx} {pins : List (Addr × Obj)} {σ : St} {H : Hp} {a C dx : Addr} {fs : List (Str × V)} {mA : Str → Option Value} {hp h' : Heap} {g : Array GenState} {d : PySem.Drawn} {t tk' : Nat} {os : OsState} {t1 : Addr}
/-- the error has got its dict -/
theorem inv_dict (I : Inv X pins σ H ⟨hp, g, d, t, os⟩) (e : H a = some (exo a C none)) (k : ∀ b o, b ≠ a → hp.get? b = some o → h'.get? b = some o) (dn : hp.objs.size ≤ dx) (hx : h'.get? a = some (PySem.W.excObj C t1 (some dx) .none)) (hn : h'.Ns1 dx mA) (r : ∀ f, RelO (fs.lookup f) (mA f)) :
    Inv X pins σ (upd (upd H dx (exd dx fs)) a (exo a C (some dx))) ⟨h', g, d, tk', os⟩ := by
  have free : H dx = none := I.hok.fresh dn
  have old : ∀ {b : Addr} {o : Obj}, hp.get? b = some o → b ≠ dx := fun {b o} q => Nat.ne_of_lt (Nat.lt_of_lt_of_le (Heap.lt_size q) dn)
  have un : ∀ {b : Addr}, H b = none → b ≠ a := fun {b} n z => by rw [z, e] at n; cases n
  have up : ∀ {b : Addr} {o : HO}, b ≠ a → H b = some o → (upd (upd H dx (exd dx fs)) a (exo a C (some dx))) b = some o := fun {b o} n q => by
    rw [upd_ne n, upd_ne (ne_of_none q free)]
    exact q
  refine I.un (t' := tk') (h' := h') (H' := upd (upd H dx (exd dx fs)) a (exo a C (some dx))) ?_ fun b o q => ?_
  · exact {
      keep := fun b o q n _ _ => k b o (un n) q
      slot := fun b o q n _ _ => ⟨o.slots, k b o (un n) q⟩
      free := fun b o q n _ => by rw [upd_ne (un n), upd_ne (old q)]; exact n
      there := fun b o q _ => by
        by_cases hb : b = a
        · exact ⟨_, by rw [hb]; exact hx⟩
        · exact ⟨o, k b o hb q⟩
      tups := fun b xs q => up (at_ne e q exo_tup) q
      frzs := fun b o v q => up (at_ne e q exo_frz) q
      tbls := fun b ps q => ⟨#[], by rw [up (at_ne e q exo_tbl) q]; simp⟩ }
  · by_cases hb : b = a
    · subst hb
      rw [upd_same] at q
      cases q
      exact exo_ok hx
    · rw [upd_ne hb] at q
      by_cases hd : b = dx
      · subst hd
        rw [upd_same] at q
        cases q
        exact exd_ok hn r
      · rw [upd_ne hd] at q
        refine (I.hok b o q).stay (fun c v hc z => k c v ?_ z) (fun c hc => up (at_ne e hc exo_own) hc) (fun c xs hc => up (at_ne e hc exo_tup) hc)
        rcases hc with hc | hc
        · rw [hc]; exact hb
        · exact at_ne e hc exo_own
end
/-- self.f = e of such an error -/
def tOstB (K : PySem.W.Frag) (f : Str) (to te : TE) : TS := fun D σ H => te σ H fun y H1 => to σ H1 fun x H2 => ∃ a C : Addr, x = .ref a ∧ OexB K C ∧ PySem.W.findIn K (.ref C) f = some none ∧
  ((H2 a = some (exo a C none) ∧ ∀ dx, H2 dx = none → dx ≠ a → D.nx σ (upd (upd H2 dx (exd dx [(f, y)])) a (exo a C (some dx)))) ∨
    ∃ (dx : Addr) (fs : List (Str × V)), H2 a = some (exo a C (some dx)) ∧ H2 dx = some (exd dx fs) ∧ fs.length ≤ 900 ∧ D.nx σ (upd H2 dx (exd dx ((f, y) :: fs))))
section
variable {X : Cx} {o e : Expr} {to te : TE} {f : Str} {p' pos : Pos}
theorem ps_ostB (ho : PE X o to) (he : PE X e te) (hs : swapsWith e (some (.Attribute o f p')) pos.line X.env = pure false := by rfl) : PS X (.Assign [.Attribute o f p'] e pos) (tOstB X.K f to te) := by
  refine ⟨fun pins s σ H D I h => ?_⟩
  refine plainObj_wpAny_Assign_Attribute (thn (he.run pins s σ H _ I h) fun v s1 ⟨y, H1, I1, r1, q1⟩ => thn (ho.run pins s1 σ H1 _ I1 q1) fun u s2 ⟨x, H2, I2, r2, a, C, ex, T, hno, q⟩ => ?_) hs
  subst ex
  obtain rfl : u = Value.ref a := r2
  obtain ⟨B, newId, initId, bmB, nm, qn, N, bs, bm, sn, sub, ab, col, dd, k0, k1, k2, k3, k5, EB, hC, ht⟩ := T.cls
  obtain ⟨ov, cd, hc, hh⟩ := cls_over hC ht
  obtain ⟨hp, g, d, t, os⟩ := s2
  rcases q with ⟨ea, q⟩ | ⟨dx, fs, ea, ed, hl, q⟩
  · obtain ⟨t1, hoe⟩ := exo_at I2.hok ea
    refine PySem.W.set_plain I2.kIn (ox := PySem.W.excObj C t1 none .none) (od := none) ⟨hoe, rfl, rfl, trivial⟩ T.sa ?_
    refine first_store EB I2.kIn hoe ov hc hh hno fun h' tk' dx k dn dne hx hn => ?_
    exact ⟨σ, _, inv_dict (fs := [(f, y)]) I2 ea k dn hx hn (relO_put (fs := []) r1 fun g => True.intro), q dx (I2.hok.fresh dn) dne⟩
  · obtain ⟨t1, hoe⟩ := exo_at I2.hok ea
    obtain ⟨mA, hns, rel⟩ := exd_at I2.hok ed
    have hw := within_of rel
    obtain ⟨oD, _, _, hoD, _, _⟩ := hns.count hw
    refine PySem.W.set_plain I2.kIn (ox := PySem.W.excObj C t1 (some dx) .none) (od := some oD) ⟨hoe, rfl, rfl, hoD⟩ T.sa ?_
    refine next_store EB I2.kIn hoe hns hw (by rw [List.length_map]; omega) ov hc hh hno fun h' tk' k hn => ?_
    have hd : ∃ o, h'.get? dx = some o := by
      obtain ⟨o, _, _, e', _⟩ := hn
      exact ⟨o, e'⟩
    exact ⟨σ, _, I2.write (t' := tk') (x := dx) (e := dx) (o := exd dx ((f, y) :: fs)) (by rw [ed]; exact True.intro) (.inl rfl) k hd (exd_ok hn (relO_put r1 rel)), q⟩
end
section
variable {X : Cx} {e : Expr} {es : List Expr} {ta : TA} {p pos : Pos}
/-- C(e, ..) by C's own __init__ -/
theorem pmk_oexB {CX : CXT} {x : Str} {C fI : Addr} {k : Nat} {fd : FuncData} {ps : List Str} {sp : Sp} {ds : List Value} {dvs : List V} (T : OexB X.K C) (iC : PySem.W.findIn X.K (.ref C) "__init__" = some (some (.ref fI))) (tI : PySem.W.typeIn X.K (.ref fI) = some (.type "function"))
    (F1 : FnOk X.prog X.w X.K X.mg X.base CX k fI fd ps sp) (hr : Room (k + 1) X.A) (hb : Binds X.K fd ps ds) (hd : Vals dvs ds) (hx : Passes CX X (fun _ _ _ => False)) (hg : Gl X x) (hm : X.mg x = some (.ref C)) (ha : PA X (e :: es) ta)
    (hdb : (x == ("__debug__" : Str)) = false := by decide) (he : starEach (e :: es) X.env = (false, eval e X.env) :: starEach es X.env := by rfl) (hpl : (backTo pos (starEach es X.env)).any (·.1) = false := by rfl) :
    PMk X (.Call (.Name x p) (e :: es) [] pos) (tMkO C sp dvs ta) := by
  intro pins s σ H Q I h
  obtain ⟨B, newId, initId, bmB, nm, qn, N, bs, bm, sn, sub, ab, col, dd, k0, k1, k2, k3, k5, EB, hC, ht⟩ := T.cls
  refine wpAny_Call_Name_kw (ld_glob I hg hm ?_ hdb)
  refine PySem.W.callWith_K (h₀ := X.base) I.ok.mod.kin T.kC (thn (ha.run pos pins s σ H _ I h) fun us s1 ⟨vs, H1, I1, r1, hz, q1⟩ => ⟨I1.kIn, ?_⟩) he hpl
  show wpAny _ _ (call (.ref C) us) _ _ _
  obtain ⟨hp, g, dr, tk, os⟩ := s1
  generalize ea : hp.objs.size + 1 = A1
  have hsz : hp.objs.size ≤ A1 := by omega
  have hn : H1 A1 = none := I1.hok.fresh hsz
  have kk : ∀ b o, hp.get? b = some o → ((hp.push (PySem.W.kdv_tup us)).push (PySem.HandSPX.excO C hp.objs.size)).get? b = some o := fun b o e => Heap.get?_push_of_some _ (Heap.get?_push_of_some _ e)
  have hget : ((hp.push (PySem.W.kdv_tup us)).push (PySem.HandSPX.excO C hp.objs.size)).get? A1 = some (PySem.HandSPX.excO C hp.objs.size) := by subst ea; heap_get
  have I2 := I1.laid (t' := tk) (a := A1) (o := exo A1 C none) (h' := (hp.push (PySem.W.kdv_tup us)).push (PySem.HandSPX.excO C hp.objs.size)) kk hsz (exo_ok hget)
  have hq := q1 A1 hn
  have r2 : Vals (V.ref A1 :: (vs ++ dvs)) (Value.ref A1 :: (us ++ ds)) := .cons rfl (r1.append hd)
  have hl : (Value.ref A1 :: us ++ ds).length = ps.length := by
    have e := r2.length
    rw [F1.len _ _ _ _ hq] at e
    exact e.symm
  have hus : us.length ≤ sizeLine := by
    rw [← Paired.length r1, sizeLine_eq]
    omega
  have fin := PySem.HandSPX.call_own (prog := X.prog) (w := X.w) (A := X.A) (g := g) (d := dr) (t := tk) (os := os) (rest := us) (R := fun r s' => match r with | .ok (.ret v) => MkP X pins σ Q v s' | .ok _ => False | .error er => X.xe er s') EB.fb (fun Y => PySem.W.excTail_contains Y bm ht) (I1.kIn _ _ hC) (PySem.W.looks_findIn I1.kIn iC) (fun self => PySem.W.bind_fn I1.kIn self tI) hus
  rw [ea] at fin
  refine wpAny_call (codeAny_mono (fin (codeAny_mono (F1.run _ X.stack _ _ ⟨Value.ref A1 :: us, []⟩ (Value.ref A1 :: (us ++ ds)) _ _ (fun _ _ _ => False) (hr.make C us []) (I2.env0.make C us []) (hb _ (Value.ref A1 :: us) I2.kIn hl) r2 hq) fun r s' hq' => ?_)) fun r s' z => ?_)
  · cases r with
    | error er => exact hx pins σ _ _ er s' I2 hq'
    | ok fl =>
      cases fl with
      | ret u =>
        obtain ⟨v, H2, os2, bare2, un2, hok2, rv, ev, d, fs, ea', ed, hd1, q2⟩ := hq'
        subst ev
        obtain ⟨h2, g2, d2, t2, os'⟩ := s'
        exact ⟨rv, mk_end (raises_own T.exC T.tyC) I1 hsz kk un2 hok2 os2 bare2 ea' ed hd1 q2⟩
      | next => exact False.elim hq'
      | brk => exact False.elim hq'
      | cont => exact False.elim hq'
  · exact z
end
/-- the class, as a raise sees it -/
structure ErB (P : Program) (w : World) (K : PySem.W.Frag) (mg : Str → Option Value) (base : Heap) (k : Nat) (x : Str) (C : Addr) (f : Str) : Prop where
  ex : ∃ (fI : Addr) (fd : FuncData) (ps : List Str), FnOk P w K mg base CX0 k fI fd ps (spErr C f) ∧ PySem.W.findIn K (.ref C) "__init__" = some (some (.ref fI)) ∧ PySem.W.typeIn K (.ref fI) = some (.type "function") ∧ Binds K fd ps []
  ok : OexB K C
  gl : mg x = some (.ref C)
section
variable {X : Cx} {k j : Nat} {C : Addr} {x f : Str} {p pos pos2 : Pos} {e : Expr} {te : TE} {W : WX}
theorem ps_raise1B (c : ErB X.prog X.w X.K X.mg X.base k x C f) (hc : X.calm = true) (tk : Takes X W) (hr : Room j X.A) (hk : k + 1 ≤ j) (hg : Gl X x) (he : PE X e te) (hdb : (x == ("__debug__" : Str)) = false := by decide)
    (hst : starEach (e :: []) X.env = (false, eval e X.env) :: starEach [] X.env := by rfl) : PS X (.Raise (some (.Call (.Name x p) [e] [] pos)) none pos2) (tRaise1 C f W te) := by
  obtain ⟨fI, fd, ps, F, h1, h2, hb⟩ := c.ex
  exact ps_raise hc tk (pmk_oexB (dvs := []) c.ok h1 h2 F (hr.mono hk) hb .nil pass0 hg c.gl (pa_cons he pa_nil hst) hdb hst rfl)
end
end L2.G42

set_option Elab.async false
set_option linter.all false
set_option maxRecDepth 100000
set_option maxHeartbeats 4000000
namespace L2.G42
open PySem PySem.Spec PyProof.Rows
/-! o.m(k = v) -/
/-- a method that may raise, called with keywords alone -/
structure MtK (P : Program) (w : World) (K : PySem.W.Frag) (mg : Str → Option Value) (base : Heap) (k : Nat) (C : Addr) (m : Str) (ks : List Str) (sp : Sp) : Prop where
  ex : ∃ (f : Addr) (fd : FuncData) (ps : List Str), Cls K C ∧ Meth K C m f ∧ FnOk P w K mg base (L2.CX P w) k f fd ps sp ∧ ∀ (s : Shared) (u : Value) (ws : List Value), K.In s.heap → (u :: ws).length = ps.length → ws.length = ks.length → BindsTo s fd ⟨[u], ks.zip ws⟩ (ps.zip (u :: ws))
def tMethKS (C : Addr) (m : Str) (nk : Nat) (sp : Sp) (E : St → XK) (ta : TE) (tk : TA) : TE := fun σ H Q => ta σ H fun x H1 => ∃ a dx fs, x = .ref a ∧ H1 a = some (.ins C dx fs) ∧ fs.lookup m = none ∧ tk σ H1 fun zs H2 => zs.length = nk ∧ sp (x :: zs) H2 Q (E σ)
theorem pe_mtKS {X : Cx} {k j : Nat} {C : Addr} {m : Str} {ks : List Str} {sp : Sp} {W : WX} {o : Expr} {kws : List Keyword} {ta : TE} {tkw : TA} {pos apos : Pos} {pl : Sem Bool} (c : MtK X.prog X.w X.K X.mg X.base k C m ks sp) (tk : Takes X W) (hr : Room j X.A) (hk : k ≤ j) (he : PE X o ta) (hkw : PK X kws tkw)
    (hall : (backToKw pos (keywordEach kws X.env)).all (·.1.isSome) = true := by rfl) (hks : (backToKw pos (keywordEach kws X.env)).filterMap (·.1) = ks := by rfl) (hpl : ((backTo pos (starEach [] X.env)).any (·.1) || (backToKw pos (keywordEach kws X.env)).any (·.1.isNone)) = false := by rfl)
    (ht : eval (.Call (.Attribute o m apos) [] kws pos) X.env = (eval o X.env >>= fun ov => standAt apos.atName >>= fun _ => holding [ov] (getMethod ov m pl) >>= fun q => callWith pos q.1 q.2 (backTo pos (starEach [] X.env)) (backToKw pos (keywordEach kws X.env))) := by rfl) :
    PE X (.Call (.Attribute o m apos) [] kws pos) (tMethKS C m ks.length sp (WE W) ta tkw) := by
  obtain ⟨f, fd, ps, cl, hm, F, hb⟩ := c.ex
  refine ⟨fun pins s σ H Q I h => ?_⟩
  refine PySem.W.methodCall_KW (pl := pl) (thn (he.run pins s σ H _ I h) fun u s1 ⟨x, H1, I1, rx, a, dx, fs, ex, ea, l, q⟩ => ?_) ht
  subst ex
  obtain rfl : u = Value.ref a := rx
  refine getmeth_ok I1 ea cl hm l ?_
  refine PySem.W.callWith_KW0 (first := [.ref a]) (h₀ := X.base) I.ok.mod.kin hm.kp hall (thn (hkw.run pos pins s1 σ H1 _ I1 q) fun ws s2 ⟨zs, H2, I2, rz, hn, q2⟩ => ⟨I2.kIn, ?_⟩) hpl
  rw [hks]
  have r2 : Vals (V.ref a :: zs) (Value.ref a :: ws) := .cons rfl rz
  have hl : (Value.ref a :: ws).length = ps.length := r2.length.symm.trans (F.len _ _ _ _ q2)
  refine wpAny_call (codeAny_mono (F.run X.A X.stack s2 H2 ⟨[.ref a], ks.zip ws⟩ (.ref a :: ws) (.ref a :: zs) Q (WE W σ) (hr.mono hk) I2.env0 (hb s2 (.ref a) ws I2.kIn hl (by rw [← Paired.length rz]; exact hn)) r2 q2) fun r s' hq => ?_)
  cases r with
  | error e => exact passAt tk σ pins H2 s2 e s' I2 hq
  | ok fl =>
    cases fl with
    | ret u => exact I2.after hq
    | next => exact False.elim hq
    | brk => exact False.elim hq
    | cont => exact False.elim hq
/-- binding by keywords, the defaults there but not used -/
theorem FunD.kw {K : PySem.W.Frag} {x qual : Str} {params : Arguments} {body : List Stmt} {scope : Scope} {dvs : List V} {kws : List (Str × V)} {f : Addr} {fd : FuncData} {ps ks : List Str} (F : FunD K x qual params body scope dvs kws f fd) (hd : dvs ≠ [])
    (h : ∀ (T : Addr) (kV doc pm : Value) (an : Option Addr) (cdv ct : Value) (u : Value) (ws its : List Value), ws.length = ks.length → its.length = dvs.length →
      ∃ k, bindArgs (PySem.W.fnOf x qual params body scope (.ref T) kV doc pm an cdv ct) ⟨[u], ks.zip ws⟩ = seqItems? (.ref T) >>= k ∧ k (some its.toArray) = pure (ps.zip (u :: ws))) :
    ∀ (s : Shared) (u : Value) (ws : List Value), K.In s.heap → (u :: ws).length = ps.length → ws.length = ks.length → BindsTo s fd ⟨[u], ks.zip ws⟩ (ps.zip (u :: ws)) := by
  obtain ⟨oc, od, dV, kV, doc, pm, an, cdv, ct, osl, rfl, lk, hcd, hD, hK⟩ := F.ex
  rcases hD with ⟨e, _⟩ | ⟨_, T, o, its, m, rfl, lT, oT, rT⟩
  · exact absurd e hd
  · intro s u ws X _ hw
    obtain ⟨k, e1, e2⟩ := h T kV doc pm an cdv ct u ws its hw rT.length.symm
    refine BindsTo.of_looks fun M => ?_
    rw [e1]
    exact looks_items X lT oT (.of_pure e2)
/-! isinstance(e, (c1, c2)), e the error that the suite holds -/
def rIsDT (K : PySem.W.Frag) (D a : Addr) (cls : Value) (d : Option Addr) : List V → Hp → VK → Prop := fun xs H Q => ∃ (tp dd : Addr) (cs : List V) (ws : List Value) (fs : List (Str × V)) (b : Bool), xs = [.ref a, .ref tp] ∧ cls = .ref D ∧ d = some dd ∧ H dd = some (.xd fs) ∧ H tp = some (.tup cs) ∧ Paired ClsV cs ws ∧ PySem.W.kitAny K (.ref D) ws = some b ∧ Q (.bl b) H
theorem call_isDT {X : Cx} {a D : Addr} {oe : Obj} {cls : Value} {d : Option Addr} {pn : List (Addr × Obj)} (C : ExcD X.K D) (hz : Zc cls d oe) (hf : ∃ vs, oe.data = .fields vs) : CallR (X.suite a ((a, oe) :: pn)) (.builtin "isinstance") (rIsDT X.K D a cls d) := by
  intro pins s σ H xs us Q I r h
  obtain ⟨tp, dd, cs, ws, fs, b, rfl, rfl, rfl, hd, hT, k, e, q⟩ := h
  match us, r with
  | [u, uc], .cons rx (.cons rc .nil) =>
    cases rx
    cases rc
    obtain ⟨hget, _⟩ := I.pin (a, oe) (List.mem_append.mpr (.inl List.mem_cons_self))
    obtain ⟨vs, hv⟩ := hf
    have hx : ObjOk X.prog X.w H s.heap dd (.xd fs) := I.hok dd _ hd
    obtain ⟨mA, hns, _⟩ := hx
    obtain ⟨od, ho, _⟩ := lookIn_ns hns
    have J : PySem.W.InstAt s.heap a oe D (some od) := ⟨hget, hz.1, by unfold PySem.W.notCls; rw [hv] <;> rfl, by rw [hz.2]; exact ho⟩
    obtain ⟨_, its, rv, o, h1, h2, n, h3⟩ := (show ObjOk X.prog X.w H s.heap tp (.tup cs) from I.hok tp _ hT)
    have e3 := ClsV.all k rv
    subst e3
    obtain ⟨oc, od', dt, sl⟩ := o
    simp only at h2 h3
    subst h2 h3
    exact PySem.W.kia_tup (PySem.W.kitx_exc C.hc C.hg C.hk C.hs C.ha C.hn C.ht C.hm) I.kIn J h1 e (fun z => nomatch z) fun tk => ⟨.bl b, H, I.kept (t' := tk) fun _ _ z => z, rfl, q⟩
/-! any value as a place -/
def txtsOf : PyData → List Str
  | .tuple ds => ds.filterMap fun d => match d with | .str z => some z | _ => none
  | _ => []
theorem row_data {d : PyData} (h : isRowD d = true) : d = .tuple (dS (txtsOf d)) := by
  cases d with
  | tuple ds =>
    have gen : ∀ l : List PyData, l.all isStr = true → l = dS (l.filterMap fun d => match d with | .str z => some z | _ => none) := by
      intro l
      induction l with
      | nil => intro _; rfl
      | cons x l ih =>
        intro h
        rw [List.all_cons, Bool.and_eq_true] at h
        cases x with
        | str z =>
          show PyData.str z :: l = PyData.str z :: dS _
          rw [← ih h.2]
        | _ => cases h.1
    show PyData.tuple ds = .tuple (dS (ds.filterMap _))
    rw [← gen ds h]
  | _ => cases h
/-- whether a value is a place of the tree -/
def plD (n : Nat) (t : Tr n) (d : PyData) : Bool := isRowD d && hasPl n t (txtsOf d)
theorem row_sq {K : PySem.W.Frag} {H : Hp} {x : V} {d : PyData} (h : Dp K H x d) (hr : isRowD d = true) : ∃ c, x = .ref c ∧ SqT K H c ((txtsOf d).map V.str) := by
  rw [row_data hr] at h
  generalize txtsOf d = p at h ⊢
  cases h with
  | @tup a xs ds hs ha =>
    refine ⟨a, rfl, ?_⟩
    have : xs = p.map V.str := by
      have gen : ∀ (p : List Str) (xs : List V), DpAll K H xs (dS p) → xs = p.map V.str := by
        intro p
        induction p with
        | nil => intro xs h; cases h; rfl
        | cons z p ih =>
          intro xs h
          cases h with
          | cons h1 h2 =>
            cases h1
            rw [List.map_cons, ← ih _ h2]
      exact gen p xs ha
    rw [this] at hs
    exact hs
/-- is_row_of_keys, of longer tuples too -/
def spIsRowW (K : PySem.W.Frag) : Sp := fun vs H Q _ => ∃ (x : V) (d : PyData), vs = [x] ∧ Dp K H x d ∧ (∀ ds, d = .tuple ds → ds.length ≤ 90000) ∧ ∀ H' : Hp, But (fun _ => False) H H' → Q (.bl (isRowD d)) H'
/-- __contains__ of any value -/
def spBHasD (K : PySem.W.Frag) (BK : Addr) : Sp := fun vs H Q _ => ∃ (b D : Addr) (n : Nat) (t : Tr n) (x : V) (d : PyData), vs = [.ref b, x] ∧ BkTr BK H b D n t ∧ Dp K H x d ∧ (∀ ds, d = .tuple ds → ds.length ≤ 90000) ∧ ∀ H' : Hp, But (fun _ => False) H H' → Q (.bl (plD n t d)) H'
/-- [ ], under, form of any value -/
def spAsk (K : PySem.W.Frag) (BK NP : Addr) : Sp := fun vs H Q E => ∃ (b D : Addr) (n : Nat) (t : Tr n) (x : V) (d : PyData), vs = [.ref b, x] ∧ BkTr BK H b D n t ∧ Dp K H x d ∧ (∀ ds, d = .tuple ds → ds.length ≤ 90000) ∧
  (plD n t d = true → ∀ (v : V) (H' : Hp), v ≠ .non → But (fun _ => False) H H' → Q v H') ∧ (plD n t d = false → ∀ (e : Addr) (H' : Hp), H e = none → H' e = some (.xd [("place", x)]) → But (fun _ => False) H H' → E (.ref NP) (some e) H')
theorem has_row {n : Nat} {t : Tr n} {p : List Str} (h : hasPl n t p = true) : ∃ r ∈ Tr.rows n [] t, r.pl = p := by
  obtain ⟨r, hr, e⟩ := List.any_eq_true.mp h
  exact ⟨r, hr, of_decide_eq_true e⟩
end L2.G42

set_option Elab.async false
set_option linter.all false
set_option maxRecDepth 100000
set_option maxHeartbeats 4000000
/-! the reader of books as an automaton over tokens -/
namespace L2.G42
open PySem PySem.Spec
inductive Ph where
  | whole | open_ | key | colon | item | after | done
  deriving DecidableEq
structure Au where
  ph : Ph
  ms : List (List Str × Str)
  way : List (Str × Nat)
  nt : Nat
  nb : Nat
/-- the place where one is -/
abbrev Au.pl (a : Au) : List Str := a.way.map (·.1)
/-- how many items stand straight under a place -/
def under (ms : List (List Str × Str)) (p : List Str) : Nat := (ms.filter fun q => isChild p q.1).length
def Au.step (a : Au) (x : Str) : Option Au := match a.ph with
  | .whole => if modes.contains x = true ∧ a.nt < 6 ∧ a.way.length ≤ 3 then some { a with ph := .open_, nt := a.nt + 1, ms := a.ms ++ [(a.pl, x)] } else none
  | .item => if modes.contains x = true then (if a.nt < 6 ∧ a.way.length ≤ 3 then some { a with ph := .open_, nt := a.nt + 1, ms := a.ms ++ [(a.pl, x)] } else none)
    else if kinds.contains x = true ∧ a.nb < 6 then some { a with ph := .after, nb := a.nb + 1, ms := a.ms ++ [(a.pl, x)] } else none
  | .open_ => if x = "{" then some { a with ph := .key } else none
  | .key => if isKey x = true ∧ a.pl ++ [x] ∉ a.ms.map (·.1) then some { a with ph := .colon, way := a.way ++ [(x, under a.ms a.pl + 1)] } else none
  | .colon => if x = ":" then some { a with ph := .item } else none
  | .after => if x = "," ∧ (a.way.getLastD ("", 3)).2 < 3 then some { a with ph := .key, way := a.way.dropLast }
    else if x = "}" then some { a with ph := if a.way.dropLast = [] then .done else .after, way := a.way.dropLast } else none
  | .done => none
def Au.steps : Au → List Str → Option Au
  | a, [] => some a
  | a, x :: r => (a.step x).bind fun b => b.steps r
theorem Au.steps_app : ∀ {r1 r2 : List Str} {a b : Au}, a.steps r1 = some b → a.steps (r1 ++ r2) = b.steps r2
  | [], _, a, b, h => by
    injection h with h
    rw [h]
    rfl
  | x :: r1, r2, a, b, h => by
    rw [Au.steps, Option.bind_eq_some_iff] at h
    obtain ⟨c, h1, h2⟩ := h
    rw [List.cons_append, Au.steps, h1]
    exact Au.steps_app h2
theorem Au.steps_one {a b : Au} {x : Str} (h : a.step x = some b) : a.steps [x] = some b := by
  rw [Au.steps, h]
  rfl
/-- reader and automaton stand alike -/
structure SimA (s : Rd) (a : Au) : Prop where
  ms : s.marks = kmk a.ms
  nt : s.nt = a.nt
  nb : s.nb = a.nb
  l1 : a.nt ≤ 6
  l2 : a.nb ≤ 6
/-- the automaton fails at what stands at p -/
def Fail (a : Au) (ts : List (Nat × List Nat)) (size p : Nat) : Prop := ∃ pre rest b, ts = pre ++ rest ∧ a.steps (pre.map tw) = some b ∧ ((∃ t r, rest = t :: r ∧ b.step (tw t) = none ∧ p = t.1) ∨ (rest = [] ∧ b.ph ≠ .done ∧ p = size))
/-- a part of the reader keeps to the automaton -/
def Keeps (f : Rd → Except Nat Rd) (a : Au) (s : Rd) (Post : Au → Prop) : Prop := (∀ p, f s = .error p → Fail a s.ah s.size p) ∧
  ∀ s', f s = .ok s' → ∃ pre b, s.ah = pre ++ s'.ah ∧ a.steps (pre.map tw) = some b ∧ SimA s' b ∧ s'.size = s.size ∧ Post b
theorem Fail.later {a b : Au} {pre ts : List (Nat × List Nat)} {size p : Nat} (h : a.steps (pre.map tw) = some b) (f : Fail b ts size p) : Fail a (pre ++ ts) size p := by
  obtain ⟨pr, rest, c, e, h2, h3⟩ := f
  exact ⟨pre ++ pr, rest, c, by rw [e, List.append_assoc], by rw [List.map_append, Au.steps_app h]; exact h2, h3⟩
theorem Keeps.bind {f g : Rd → Except Nat Rd} {a : Au} {s : Rd} {P1 P2 : Au → Prop} (h : Keeps f a s P1) (h2 : ∀ s' b, f s = .ok s' → SimA s' b → P1 b → Keeps g b s' P2) : Keeps (fun s => (f s).bind g) a s P2 := by
  refine ⟨fun p hp => ?_, fun s' hs => ?_⟩
  · cases e : f s with
    | error q =>
      have hp : (f s).bind g = .error p := hp
      rw [e] at hp
      injection hp with hp
      subst hp
      exact h.1 _ e
    | ok s1 =>
      have hp : (f s).bind g = .error p := hp
      rw [e] at hp
      obtain ⟨pre, b, e1, e2, e3, e4, e5⟩ := h.2 _ e
      have := (h2 s1 b e e3 e5).1 p hp
      rw [e1]
      rw [e4] at this
      exact this.later e2
  · cases e : f s with
    | error q =>
      have hs : (f s).bind g = .ok s' := hs
      rw [e] at hs
      cases hs
    | ok s1 =>
      have hs : (f s).bind g = .ok s' := hs
      rw [e] at hs
      obtain ⟨pre, b, e1, e2, e3, e4, e5⟩ := h.2 _ e
      obtain ⟨pr, c, f1, f2, f3, f4, f5⟩ := (h2 s1 b e e3 e5).2 s' hs
      exact ⟨pre ++ pr, c, by rw [e1, f1, List.append_assoc], by rw [List.map_append, Au.steps_app e2]; exact f2, f3, f4.trans e4, f5⟩
theorem posA_of {s : Rd} {t : Nat × List Nat} {r : List (Nat × List Nat)} (h : s.ah = t :: r) : s.pos = t.1 := by
  unfold Rd.ah at h
  have : s.toks[s.at_]? = some t := by
    have := congrArg List.head? h
    rw [List.head?_drop] at this
    exact this
  unfold Rd.pos
  rw [this]
theorem posA_nil {s : Rd} (h : s.ah = []) : s.pos = s.size := by
  unfold Rd.ah at h
  have : s.toks[s.at_]? = none := List.getElem?_eq_none (List.drop_eq_nil_iff.mp h)
  unfold Rd.pos
  rw [this]
/-- what is refused at once -/
theorem fail_now {a : Au} {s : Rd} (hd : a.ph ≠ .done) (h : ∀ t r, s.ah = t :: r → a.step (tw t) = none) : Fail a s.ah s.size s.pos := by
  cases e : s.ah with
  | nil => exact ⟨[], [], a, rfl, rfl, .inr ⟨rfl, hd, posA_nil e⟩⟩
  | cons t r => exact ⟨[], t :: r, a, rfl, rfl, .inl ⟨t, r, rfl, h t r e, posA_of e⟩⟩
theorem SimA.step {s : Rd} {a : Au} (h : SimA s a) {b : Au} (e1 : b.ms = a.ms) (e2 : b.nt = a.nt) (e3 : b.nb = a.nb) : SimA s.step b := ⟨by rw [e1]; exact h.ms, by rw [e2]; exact h.nt, by rw [e3]; exact h.nb, by rw [e2]; exact h.l1, by rw [e3]; exact h.l2⟩
/-- a sign -/
theorem keeps_take {x : Str} {a b : Au} {s : Rd} (hd : a.ph ≠ .done) (hx : x ≠ "") (hs : SimA s a) (h1 : a.step x = some b) (h2 : ∀ y, y ≠ x → a.step y = none) (e1 : b.ms = a.ms) (e2 : b.nt = a.nt) (e3 : b.nb = a.nb) : Keeps (rdTake x) a s (· = b) := by
  refine ⟨fun p hp => ?_, fun s' hs' => ?_⟩
  · unfold rdTake at hp
    by_cases e : s.word = x
    · rw [if_pos e] at hp; cases hp
    · rw [if_neg e] at hp
      injection hp with hp
      subst hp
      exact fail_now hd fun t r h => h2 _ (by rw [← (word_of h).1]; exact e)
  · unfold rdTake at hs'
    by_cases e : s.word = x
    · rw [if_pos e] at hs'
      injection hs' with hs'
      subst hs'
      cases ea : s.ah with
      | nil => exact absurd (e.symm.trans (word_nil ea)) hx
      | cons t r =>
        obtain ⟨w1, w2, _⟩ := word_of ea
        refine ⟨[t], b, ?_, ?_, hs.step e1 e2 e3, rfl, rfl⟩
        · rw [w2]; rfl
        · show a.steps [tw t] = some b
          rw [← w1, e]
          exact Au.steps_one h1
    · rw [if_neg e] at hs'; cases hs'
end L2.G42

set_option Elab.async false
set_option linter.all false
set_option maxRecDepth 100000
set_option maxHeartbeats 4000000
namespace L2.G42
open PySem PySem.Spec
theorem val_iff {ms : List (List Str × Str)} {p : List Str} : (valV (kmk ms) (kp p)).isSome = true ↔ p ∈ ms.map (·.1) := by
  induction ms with
  | nil => simp [kmk, valV]
  | cons q ms ih =>
    rw [show kmk (q :: ms) = (kp q.1, V.str q.2) :: kmk ms from rfl, List.map_cons, List.mem_cons]
    by_cases h : kp q.1 = kp p
    · rw [valV_pos h]
      exact ⟨fun _ => .inl (kp_inj h).symm, fun _ => rfl⟩
    · rw [valV_neg h, ih]
      exact ⟨.inr, fun h2 => h2.elim (fun e => absurd (by rw [e]) h) id⟩
theorem put_fresh {ms : List (List Str × Str)} {p : List Str} {x : Str} (h : p ∉ ms.map (·.1)) : putK (kmk ms) (kp p) (.str x) = kmk (ms ++ [(p, x)]) :=
  putM_new (fun q hq e => h (List.mem_map.mpr ⟨q, hq, e⟩)) x
theorem under_app (a b : List (List Str × Str)) (p : List Str) : under (a ++ b) p = under a p + under b p := by
  unfold under
  rw [List.filter_append, List.length_append]
theorem under_deep {b : List (List Str × Str)} {p : List Str} {x : Str} (h : ∀ y ∈ b, ∃ r, r ≠ [] ∧ y.1 = (p ++ [x]) ++ r) : under b p = 0 := by
  unfold under
  rw [List.length_eq_zero_iff, List.filter_eq_nil_iff]
  intro y hy hc
  obtain ⟨r, hr, e⟩ := h y hy
  rw [isChild_len] at hc
  · cases hc
  · rw [e]
    have : r.length ≠ 0 := fun z => hr (List.length_eq_zero_iff.mp z)
    simp
    omega
theorem under_one (p : List Str) (x k : Str) : under [(p ++ [x], k)] p = 1 := by
  unfold under
  rw [List.filter_cons_of_pos (by exact isChild_self p x)]
  rfl
/-- the marks that came under p, first that of p ++ [x] -/
structure Grew (a b : Au) (p : List Str) : Prop where
  ex : ∃ mk more, b.ms = a.ms ++ (p, mk) :: more ∧ ∀ y ∈ more, ∃ r, r ≠ [] ∧ y.1 = p ++ r
theorem Grew.under {a b : Au} {p : List Str} {x : Str} (g : Grew a b (p ++ [x])) : under b.ms p = under a.ms p + 1 := by
  obtain ⟨mk, more, e, h⟩ := g.ex
  rw [e, under_app, show (p ++ [x], mk) :: more = [(p ++ [x], mk)] ++ more from rfl, under_app, under_one, under_deep h]
/-- the mode -/
def rdMode (place : List Key) (s : Rd) : Except Nat Rd := if modes.contains s.word = false ∨ s.nt = 6 then .error s.pos else .ok { s.step with nt := s.nt + 1, marks := putK s.marks place (.str s.word) }
theorem table_eq (n : Nat) (place : List Key) : rdTable (n + 1) place = fun s => (rdMode place s).bind fun s1 => (rdTake "{" s1).bind fun s2 => (rdEntry (rdTable n) place s2).bind fun s3 => (rdMore (rdEntry (rdTable n) place) 2 s3).bind (rdTake "}") := by
  funext s
  show (if _ then _ else _) = _
  unfold rdMode
  split <;> rfl
theorem nil_mode : modes.contains "" = false := by decide +kernel
theorem nil_kind : kinds.contains "" = false := by decide +kernel
theorem nil_key : isKey "" = false := by decide +kernel
theorem keeps_mode {a : Au} {s : Rd} (hs : SimA s a) (ph : a.ph = .whole ∨ a.ph = .item) (hw : a.way.length ≤ 3) (fr : a.pl ∉ a.ms.map (·.1)) (hk : a.ph = .item → kinds.contains s.word = false) :
    Keeps (rdMode (kp a.pl)) a s (fun b => b.ph = .open_ ∧ b.way = a.way ∧ ∃ mk, b.ms = a.ms ++ [(a.pl, mk)]) := by
  have dn : a.ph ≠ .done := by rcases ph with e | e <;> rw [e] <;> intro h <;> cases h
  have stp : ∀ x, modes.contains x = true → a.nt < 6 → a.step x = some { a with ph := .open_, nt := a.nt + 1, ms := a.ms ++ [(a.pl, x)] } := fun x h1 h2 => by
    unfold Au.step
    rcases ph with e | e <;> rw [e]
    · exact if_pos ⟨h1, h2, hw⟩
    · show (if _ then (if _ then _ else _) else _) = _
      rw [if_pos h1, if_pos ⟨h2, hw⟩]
  have no : ∀ x, (modes.contains x = false ∨ a.nt = 6) → (a.ph = .item → kinds.contains x = false) → a.step x = none := fun x h1 h2 => by
    unfold Au.step
    rcases ph with e | e <;> rw [e]
    · refine if_neg fun h => ?_
      rcases h1 with h1 | h1
      · rw [h1] at h; cases h.1
      · omega
    · show (if _ then (if _ then _ else _) else if _ then _ else _) = _
      rcases h1 with h1 | h1
      · rw [if_neg (by rw [h1]; exact Bool.false_ne_true), if_neg (by rw [h2 e]; exact fun h => Bool.false_ne_true h.1)]
      · by_cases hm : modes.contains x = true
        · rw [if_pos hm, if_neg (by omega)]
        · rw [if_neg hm, if_neg (by rw [h2 e]; exact fun h => Bool.false_ne_true h.1)]
  refine ⟨fun p hp => ?_, fun s' hs' => ?_⟩
  · unfold rdMode at hp
    split at hp
    · rename_i h
      injection hp with hp
      subst hp
      refine fail_now dn fun t r ht => no _ ?_ ?_
      · rw [← (word_of ht).1, ← hs.nt]; exact h
      · rw [← (word_of ht).1]; exact hk
    · cases hp
  · unfold rdMode at hs'
    split at hs'
    · cases hs'
    · rename_i h
      injection hs' with hs'
      subst hs'
      have hm : modes.contains s.word = true := by
        cases e : modes.contains s.word with
        | true => rfl
        | false => exact absurd (.inl e) h
      have hn : s.nt ≠ 6 := fun e => h (.inr e)
      have h6 := hs.l1
      have hnt := hs.nt
      cases ea : s.ah with
      | nil => rw [word_nil ea, nil_mode] at hm; cases hm
      | cons t r =>
        obtain ⟨w1, w2, _⟩ := word_of ea
        refine ⟨[t], _, ?_, Au.steps_one (stp (tw t) (by rw [← w1]; exact hm) (by omega)), ⟨?_, ?_, hs.nb, ?_, hs.l2⟩, rfl, rfl, rfl, tw t, rfl⟩
        · show t :: r = [t] ++ s.step.ah
          rw [w2]; rfl
        · show putK s.marks (kp a.pl) (.str s.word) = _
          rw [hs.ms, put_fresh fr, w1]
        · show s.nt + 1 = a.nt + 1
          rw [hnt]
        · show a.nt + 1 ≤ 6
          omega
/-- the marks are those of a tree that is being read -/
structure WF (a : Au) : Prop where
  cl : ∀ q ∈ a.ms, ∀ u z, q.1 = u ++ [z] → u ∈ a.ms.map (·.1)
  pre : ∀ u r, a.pl = u ++ r → r ≠ [] → u ∈ a.ms.map (·.1)
  own : a.ph = .key ∨ a.ph = .open_ → a.pl ∈ a.ms.map (·.1)
theorem WF.mark {a : Au} (h : WF a) (x : Str) : ∀ q ∈ a.ms ++ [(a.pl, x)], ∀ u z, q.1 = u ++ [z] → u ∈ (a.ms ++ [(a.pl, x)]).map (·.1) := by
  intro q hq u z e
  rw [List.map_append]
  refine List.mem_append.mpr (.inl ?_)
  rcases List.mem_append.mp hq with hq | hq
  · exact h.cl q hq u z e
  · rw [List.mem_singleton.mp hq] at e
    exact h.pre u [z] e (by simp)
theorem WF.more {a : Au} {b : Au} (h : WF a) (hw : b.way = a.way) (x : Str) (hm : b.ms = a.ms ++ [(a.pl, x)]) : WF b := by
  have epl : b.pl = a.pl := by show b.way.map _ = _; rw [hw]
  refine ⟨by rw [hm]; exact h.mark x, fun u r e hr => ?_, fun _ => ?_⟩
  · rw [hm, List.map_append]
    exact List.mem_append.mpr (.inl (h.pre u r (epl.symm.trans e) hr))
  · rw [hm, List.map_append, epl]
    exact List.mem_append.mpr (.inr (by simp))
theorem WF.step {a b : Au} {x : Str} (h : WF a) (e : a.step x = some b) : WF b := by
  unfold Au.step at e
  cases hp : a.ph with
  | whole =>
    rw [hp] at e
    simp only at e
    split at e
    · injection e with e
      subst e
      exact h.more rfl x rfl
    · cases e
  | open_ =>
    rw [hp] at e
    simp only at e
    split at e
    · injection e with e
      subst e
      exact ⟨h.cl, h.pre, fun _ => h.own (.inr hp)⟩
    · cases e
  | key =>
    rw [hp] at e
    simp only at e
    split at e
    · injection e with e
      subst e
      refine ⟨h.cl, fun u r e hr => ?_, fun hc => by rcases hc with hc | hc <;> cases hc⟩
      have epl : (a.way ++ [(x, under a.ms a.pl + 1)]).map (·.1) = a.pl ++ [x] := by rw [List.map_append]; rfl
      have e : a.pl ++ [x] = u ++ r := epl.symm.trans e
      rcases List.eq_nil_or_concat r with e0 | ⟨r', z, e0⟩
      · exact absurd e0 hr
      · rw [e0, List.concat_eq_append, ← List.append_assoc] at e
        have e2 := List.append_inj_left' e rfl
        by_cases hr' : r' = []
        · rw [hr', List.append_nil] at e2
          rw [← e2]
          exact h.own (.inl hp)
        · exact h.pre u r' e2 hr'
    · cases e
  | colon =>
    rw [hp] at e
    simp only at e
    split at e
    · injection e with e
      subst e
      exact ⟨h.cl, h.pre, fun hc => by rcases hc with hc | hc <;> cases hc⟩
    · cases e
  | item =>
    rw [hp] at e
    simp only at e
    split at e
    · split at e
      · injection e with e
        subst e
        exact h.more rfl x rfl
      · cases e
    · split at e
      · injection e with e
        subst e
        exact h.more rfl x rfl
      · cases e
  | after =>
    rw [hp] at e
    simp only at e
    have dl : ∀ u r, (a.way.dropLast).map (·.1) = u ++ r → r ≠ [] → u ∈ a.ms.map (·.1) := fun u r e hr => by
      rcases List.eq_nil_or_concat a.way with e0 | ⟨w, z, e0⟩
      · rw [e0] at e
        have := congrArg List.length e
        simp at this
        exact absurd (List.length_eq_zero_iff.mp (by omega)) hr
      · rw [List.concat_eq_append] at e0
        rw [e0, List.dropLast_concat] at e
        refine h.pre u (r ++ [z.1]) ?_ (by simp)
        show a.way.map _ = _
        rw [e0, List.map_append, e, List.append_assoc]
        rfl
    have ow : a.way ≠ [] → (a.way.dropLast).map (·.1) ∈ a.ms.map (·.1) := fun hn => by
      rcases List.eq_nil_or_concat a.way with e0 | ⟨w, z, e0⟩
      · exact absurd e0 hn
      · rw [List.concat_eq_append] at e0
        rw [e0, List.dropLast_concat]
        refine h.pre _ [z.1] ?_ (by simp)
        show a.way.map _ = _
        rw [e0, List.map_append]
        rfl
    split at e
    · rename_i hc
      injection e with e
      subst e
      refine ⟨h.cl, dl, fun _ => ow fun h0 => ?_⟩
      rw [h0] at hc
      exact absurd hc.2 (by decide)
    · split at e
      · injection e with e
        subst e
        refine ⟨h.cl, dl, fun hc => ?_⟩
        have : (if a.way.dropLast = [] then Ph.done else Ph.after) ≠ .key ∧ (if a.way.dropLast = [] then Ph.done else Ph.after) ≠ .open_ := by
          split <;> constructor <;> intro h <;> cases h
        rcases hc with hc | hc
        · exact absurd hc this.1
        · exact absurd hc this.2
      · cases e
  | done => rw [hp] at e; cases e
theorem WF.steps : ∀ {r : List Str} {a b : Au}, WF a → a.steps r = some b → WF b
  | [], a, b, h, e => by
    injection e with e
    rw [← e]
    exact h
  | x :: r, a, b, h, e => by
    rw [Au.steps, Option.bind_eq_some_iff] at e
    obtain ⟨c, h1, h2⟩ := e
    exact (h.step h1).steps h2
theorem Keeps.wf {f : Rd → Except Nat Rd} {a : Au} {s : Rd} {P : Au → Prop} (k : Keeps f a s P) (h : WF a) : Keeps f a s (fun b => P b ∧ WF b) := ⟨k.1, fun s' e => let ⟨pre, b, f1, f2, f3, f4, f5⟩ := k.2 s' e; ⟨pre, b, f1, f2, f3, f4, f5, h.steps f2⟩⟩
theorem WF.fresh {a : Au} (h : WF a) {p : List Str} (hp : p ∉ a.ms.map (·.1)) : ∀ (n : Nat) (r : List Str), r.length = n → ∀ q ∈ a.ms, q.1 ≠ p ++ r
  | 0, r, hr, q, hq, e => by
    rw [List.length_eq_zero_iff.mp hr, List.append_nil] at e
    exact hp (List.mem_map.mpr ⟨q, hq, e⟩)
  | n + 1, r, hr, q, hq, e => by
    rcases List.eq_nil_or_concat r with e0 | ⟨r', z, e0⟩
    · rw [e0] at hr; cases hr
    · rw [List.concat_eq_append] at e0
      rw [e0, ← List.append_assoc] at e
      obtain ⟨q', hq', e'⟩ := List.mem_map.mp (h.cl q hq _ _ e)
      exact h.fresh hp n r' (by rw [e0, List.length_append] at hr; simpa using hr) q' hq' e'
theorem WF.none {a : Au} (h : WF a) {p : List Str} (hp : p ∉ a.ms.map (·.1)) : under a.ms p = 0 := by
  unfold under
  rw [List.length_eq_zero_iff, List.filter_eq_nil_iff]
  intro q hq hc
  unfold isChild at hc
  rw [Bool.and_eq_true] at hc
  have h1 := of_decide_eq_true hc.1
  have h2 := of_decide_eq_true hc.2
  rcases List.eq_nil_or_concat q.1 with e0 | ⟨w, z, e0⟩
  · rw [e0] at h1; simp at h1
  · rw [List.concat_eq_append] at e0
    rw [e0, List.dropLast_concat] at h2
    rw [h2] at e0
    exact h.fresh hp _ [z] rfl q hq e0
/-- a table with n levels left -/
def TabK (n : Nat) : Prop := ∀ (a : Au) (s : Rd), SimA s a → WF a → (a.ph = .whole ∨ a.ph = .item) → a.way.length + n = 4 → a.pl ∉ a.ms.map (·.1) → (a.ph = .item → kinds.contains s.word = false) →
  Keeps (rdTable n (kp a.pl)) a s (fun b => b.way = a.way ∧ b.ph = (if a.way = [] then .done else .after) ∧ Grew a b a.pl)
theorem keeps_entry {n : Nat} (hT : TabK n) {a : Au} {s : Rd} (hs : SimA s a) (wf : WF a) (ph : a.ph = .key) (hl : a.way.length + n = 3) :
    Keeps (rdEntry (rdTable n) (kp a.pl)) a s (fun b => ∃ x, b.ph = .after ∧ b.way = a.way ++ [(x, under a.ms a.pl + 1)] ∧ Grew a b (a.pl ++ [x])) := by
  have dn : a.ph ≠ .done := by rw [ph]; intro h; cases h
  have kpe : ∀ x : Str, kp a.pl ++ [Sum.inr x] = kp (a.pl ++ [x]) := fun x => by rw [kp_app]; rfl
  have stp : ∀ x, isKey x = true → a.pl ++ [x] ∉ a.ms.map (·.1) → a.step x = some { a with ph := .colon, way := a.way ++ [(x, under a.ms a.pl + 1)] } := fun x h1 h2 => by
    unfold Au.step
    rw [ph]
    exact if_pos ⟨h1, h2⟩
  have no : ∀ x, (isKey x = false ∨ a.pl ++ [x] ∈ a.ms.map (·.1)) → a.step x = none := fun x h => by
    unfold Au.step
    rw [ph]
    refine if_neg fun h2 => ?_
    rcases h with h | h
    · rw [h] at h2; cases h2.1
    · exact h2.2 h
  by_cases hc : isKey s.word = false ∨ (valV s.marks (kp a.pl ++ [Sum.inr s.word])).isSome = true
  · refine ⟨fun p hp => ?_, fun s' hs' => ?_⟩
    · unfold rdEntry at hp
      rw [if_pos hc] at hp
      injection hp with hp
      subst hp
      refine fail_now dn fun t r ht => no _ ?_
      rw [← (word_of ht).1]
      rcases hc with hc | hc
      · exact .inl hc
      · rw [hs.ms, kpe] at hc
        exact .inr (val_iff.mp hc)
    · unfold rdEntry at hs'
      rw [if_pos hc] at hs'
      cases hs'
  · have hk : isKey s.word = true := by
      cases e : isKey s.word with
      | true => rfl
      | false => exact absurd (.inl e) hc
    have hf : a.pl ++ [s.word] ∉ a.ms.map (·.1) := fun h => hc (.inr (by rw [hs.ms, kpe]; exact val_iff.mpr h))
    cases ea : s.ah with
    | nil => rw [word_nil ea, nil_key] at hk; cases hk
    | cons t r =>
      obtain ⟨w1, w2, _⟩ := word_of ea
      generalize hx : s.word = x at *
      have st1 := stp x hk hf
      have s1 : SimA s.step { a with ph := .colon, way := a.way ++ [(x, under a.ms a.pl + 1)] } := hs.step rfl rfl rfl
      -- the colon, then the item
      have k2 : Keeps (fun s => (rdTake ":" s).bind fun s2 => if kinds.contains s2.word = false then rdTable n (kp (a.pl ++ [x])) s2 else if s2.nb = 6 then .error s2.pos else .ok { s2.step with nb := s2.nb + 1, marks := putK s2.marks (kp (a.pl ++ [x])) (.str s2.word) })
          { a with ph := .colon, way := a.way ++ [(x, under a.ms a.pl + 1)] } s.step (fun b => b.ph = .after ∧ b.way = a.way ++ [(x, under a.ms a.pl + 1)] ∧ Grew a b (a.pl ++ [x])) := by
        refine Keeps.bind (keeps_take (b := { a with ph := .item, way := a.way ++ [(x, under a.ms a.pl + 1)] }) (fun h => by cases h) (by decide +kernel) s1 (by unfold Au.step; exact if_pos rfl) (fun y hy => by unfold Au.step; exact if_neg hy) rfl rfl rfl) ?_
        rintro s2 b hs2e hs2 rfl
        have wf2 : WF { a with ph := .item, way := a.way ++ [(x, under a.ms a.pl + 1)] } := (wf.step st1).step (x := ":") (by unfold Au.step; exact if_pos rfl)
        have epl : (a.way ++ [(x, under a.ms a.pl + 1)]).map (·.1) = a.pl ++ [x] := by rw [List.map_append]; rfl
        by_cases hkd : kinds.contains s2.word = false
        · have hT2 := hT { a with ph := .item, way := a.way ++ [(x, under a.ms a.pl + 1)] } s2 hs2 wf2 (.inr rfl) (by show (a.way ++ [_]).length + n = 4; rw [List.length_append]; simp; omega) (by show (a.way ++ [(x, under a.ms a.pl + 1)]).map (·.1) ∉ _; rw [epl]; exact hf) (fun _ => hkd)
          have e1 : kp (Au.pl { a with ph := .item, way := a.way ++ [(x, under a.ms a.pl + 1)] }) = kp (a.pl ++ [x]) := congrArg kp epl
          rw [e1] at hT2
          refine ⟨fun p hp => hT2.1 p ?_, fun s' hs' => ?_⟩
          · have hp : (if kinds.contains s2.word = false then rdTable n (kp (a.pl ++ [x])) s2 else _) = Except.error p := hp
            rw [if_pos hkd] at hp
            exact hp
          · have hs' : (if kinds.contains s2.word = false then rdTable n (kp (a.pl ++ [x])) s2 else _) = Except.ok s' := hs'
            rw [if_pos hkd] at hs'
            obtain ⟨pre, b, f1, f2, f3, f4, f5, f6, f7⟩ := hT2.2 s' hs'
            refine ⟨pre, b, f1, f2, f3, f4, ?_, f5, ?_⟩
            · rw [f6]
              exact if_neg (by simp)
            · obtain ⟨mk, more, g1, g2⟩ := f7.ex
              rw [show Au.pl { a with ph := .item, way := a.way ++ [(x, under a.ms a.pl + 1)] } = a.pl ++ [x] from epl] at g1 g2
              exact ⟨mk, more, g1, g2⟩
        · have hkt : kinds.contains s2.word = true := by
            cases e : kinds.contains s2.word with
            | true => rfl
            | false => exact absurd e hkd
          have hnm : ∀ y, kinds.contains y = true → modes.contains y = false := fun y hy => by
            have : ∀ z ∈ kinds, modes.contains z = false := by decide +kernel
            exact this y (List.contains_iff_mem.mp hy)
          have stB : ∀ y, kinds.contains y = true → a.nb < 6 → Au.step { a with ph := .item, way := a.way ++ [(x, under a.ms a.pl + 1)] } y = some { a with ph := .after, way := a.way ++ [(x, under a.ms a.pl + 1)], nb := a.nb + 1, ms := a.ms ++ [(a.pl ++ [x], y)] } := fun y h1 h2 => by
            unfold Au.step
            show (if _ then (if _ then _ else _) else if _ then _ else _) = _
            rw [if_neg (by rw [hnm y h1]; exact Bool.false_ne_true), if_pos ⟨h1, h2⟩]
            show some _ = some _
            congr 2
            rw [show Au.pl { a with ph := .item, way := a.way ++ [(x, under a.ms a.pl + 1)] } = a.pl ++ [x] from epl]
          have noB : ∀ y, kinds.contains y = true → a.nb = 6 → Au.step { a with ph := .item, way := a.way ++ [(x, under a.ms a.pl + 1)] } y = none := fun y h1 h2 => by
            unfold Au.step
            show (if _ then (if _ then _ else _) else if _ then _ else _) = _
            rw [if_neg (by rw [hnm y h1]; exact Bool.false_ne_true), if_neg (by show ¬ (_ ∧ a.nb < 6); omega)]
          have nbe : s2.nb = a.nb := hs2.nb
          refine ⟨fun p hp => ?_, fun s' hs' => ?_⟩
          · have hp : (if kinds.contains s2.word = false then _ else if s2.nb = 6 then _ else _) = Except.error p := hp
            rw [if_neg hkd] at hp
            by_cases h6 : s2.nb = 6
            · rw [if_pos h6] at hp
              injection hp with hp
              subst hp
              exact fail_now (fun h => by cases h) fun t r ht => noB _ (by rw [← (word_of ht).1]; exact hkt) (by rw [← nbe]; exact h6)
            · rw [if_neg h6] at hp; cases hp
          · have hs' : (if kinds.contains s2.word = false then _ else if s2.nb = 6 then _ else _) = Except.ok s' := hs'
            rw [if_neg hkd] at hs'
            by_cases h6 : s2.nb = 6
            · rw [if_pos h6] at hs'; cases hs'
            · rw [if_neg h6] at hs'
              injection hs' with hs'
              subst hs'
              have l6 := hs2.l2
              have l6 : a.nb ≤ 6 := l6
              cases ea2 : s2.ah with
              | nil => rw [word_nil ea2, nil_kind] at hkt; cases hkt
              | cons t2 r2 =>
                obtain ⟨v1, v2, _⟩ := word_of ea2
                refine ⟨[t2], _, ?_, Au.steps_one (stB (tw t2) (by rw [← v1]; exact hkt) (by omega)), ⟨?_, hs2.nt, ?_, hs2.l1, ?_⟩, rfl, rfl, rfl, ⟨tw t2, [], rfl, fun y hy => by cases hy⟩⟩
                · show t2 :: r2 = [t2] ++ s2.step.ah
                  rw [v2]; rfl
                · show putK s2.marks (kp (a.pl ++ [x])) (.str s2.word) = _
                  rw [hs2.ms, put_fresh hf, v1]
                · show s2.nb + 1 = a.nb + 1
                  rw [nbe]
                · show a.nb + 1 ≤ 6
                  omega
      have ent : rdEntry (rdTable n) (kp a.pl) s = (rdTake ":" s.step).bind fun s2 => if kinds.contains s2.word = false then rdTable n (kp (a.pl ++ [x])) s2 else if s2.nb = 6 then .error s2.pos else .ok { s2.step with nb := s2.nb + 1, marks := putK s2.marks (kp (a.pl ++ [x])) (.str s2.word) } := by
        unfold rdEntry
        rw [hx, if_neg hc, kpe]
      have stt : a.steps ([t].map tw) = some { a with ph := .colon, way := a.way ++ [(x, under a.ms a.pl + 1)] } := by
        show a.steps [tw t] = _
        rw [← w1]
        exact Au.steps_one st1
      refine ⟨fun p hp => ?_, fun s' hs' => ?_⟩
      · rw [ent] at hp
        have := (k2.1 p hp).later stt
        rw [w2] at this
        rw [ea]
        exact this
      · rw [ent] at hs'
        obtain ⟨pre, b, f1, f2, f3, f4, f5, f6, f7⟩ := k2.2 s' hs'
        refine ⟨t :: pre, b, ?_, ?_, f3, f4, x, f5, f6, f7⟩
        · rw [ea, ← w2, f1]; rfl
        · have := Au.steps_app (r2 := pre.map tw) stt
          exact this.trans f2
end L2.G42

set_option Elab.async false
set_option linter.all false
set_option maxRecDepth 100000
set_option maxHeartbeats 4000000
namespace L2.G42
open PySem PySem.Spec
theorem more_word {ent : Rd → Except Nat Rd} : ∀ {k : Nat} {s s' : Rd}, rdMore ent k s = .ok s' → s'.word ≠ ","
  | 0, s, s', h => by
    unfold rdMore at h
    split at h
    · cases h
    · injection h with h
      subst h
      assumption
  | k + 1, s, s', h => by
    unfold rdMore at h
    split at h
    · cases e : ent s.step with
      | error p => rw [e] at h; cases h
      | ok s1 => rw [e] at h; exact more_word (k := k) h
    · injection h with h
      subst h
      assumption
/-- behind an entry of the table at W -/
structure Aft (a : Au) (W : List (Str × Nat)) (k : Nat) : Prop where
  ph : a.ph = .after
  ex : ∃ x c, a.way = W ++ [(x, c)] ∧ c = under a.ms (W.map (·.1)) ∧ c + k = 3
theorem app_last (W : List (Str × Nat)) (x : Str × Nat) : (W ++ [x]).getLastD ("", 3) = x := by
  rw [List.getLastD_eq_getLast?, List.getLast?_append]
  rfl
theorem keeps_more {n : Nat} (hT : TabK n) {W : List (Str × Nat)} (hl : W.length + n = 3) : ∀ (k : Nat) (a : Au) (s : Rd), SimA s a → WF a → Aft a W k →
    Keeps (rdMore (rdEntry (rdTable n) (kp (W.map (·.1)))) k) a s (fun b => b.ph = .after ∧ (∃ x c, b.way = W ++ [(x, c)]) ∧ ∃ more, b.ms = a.ms ++ more ∧ ∀ y ∈ more, ∃ r, r ≠ [] ∧ y.1 = W.map (·.1) ++ r)
  | 0, a, s, hs, wf, ha => by
    obtain ⟨x, c, e1, e2, e3⟩ := ha.ex
    refine ⟨fun p hp => ?_, fun s' hs' => ?_⟩
    · unfold rdMore at hp
      split at hp
      · rename_i hw
        injection hp with hp
        subst hp
        refine fail_now (by rw [ha.ph]; intro h; cases h) fun t r ht => ?_
        rw [← (word_of ht).1, hw]
        unfold Au.step
        rw [ha.ph]
        show (if _ then _ else if _ then _ else _) = _
        rw [if_neg (by rw [e1, app_last]; show ¬ (_ ∧ c < 3); omega), if_neg (by decide +kernel)]
      · cases hp
    · unfold rdMore at hs'
      split at hs'
      · cases hs'
      · injection hs' with hs'
        subst hs'
        exact ⟨[], a, rfl, rfl, hs, rfl, ha.ph, ⟨x, c, e1⟩, [], by simp, fun y hy => by cases hy⟩
  | k + 1, a, s, hs, wf, ha => by
    obtain ⟨x, c, e1, e2, e3⟩ := ha.ex
    by_cases hw : s.word = ","
    · cases ea : s.ah with
      | nil =>
        exfalso
        rw [word_nil ea] at hw
        revert hw
        decide +kernel
      | cons t r =>
        obtain ⟨w1, w2, _⟩ := word_of ea
        have epl : Au.pl { a with ph := .key, way := W } = W.map (·.1) := rfl
        have st1 : a.step (tw t) = some { a with ph := .key, way := W } := by
          rw [← w1, hw]
          unfold Au.step
          rw [ha.ph]
          show (if _ then _ else if _ then _ else _) = _
          rw [if_pos (by rw [e1, app_last]; exact ⟨rfl, by show c < 3; omega⟩), e1, List.dropLast_concat]
        have s1 : SimA s.step { a with ph := .key, way := W } := hs.step rfl rfl rfl
        have k1 := (keeps_entry hT s1 (a := { a with ph := .key, way := W }) (wf.step st1) rfl hl).wf (wf.step st1)
        have k2 : Keeps (fun s => (rdEntry (rdTable n) (kp (W.map (·.1))) s).bind (rdMore (rdEntry (rdTable n) (kp (W.map (·.1)))) k)) { a with ph := .key, way := W } s.step
            (fun b => b.ph = .after ∧ (∃ x c, b.way = W ++ [(x, c)]) ∧ ∃ more, b.ms = a.ms ++ more ∧ ∀ y ∈ more, ∃ r, r ≠ [] ∧ y.1 = W.map (·.1) ++ r) := by
          refine Keeps.bind k1 ?_
          rintro s2 b _ hs2 ⟨⟨x2, h1, h2, h3⟩, wf2⟩
          have hu := h3.under
          have ha2 : Aft b W k := ⟨h1, x2, _, h2, hu.symm, by
            show under a.ms (W.map (·.1)) + 1 + k = 3
            omega⟩
          have k3 := keeps_more hT hl k b s2 hs2 wf2 ha2
          refine ⟨k3.1, fun s' hs' => ?_⟩
          obtain ⟨pre, b2, f1, f2, f3, f4, f5, f6, more, f7, f8⟩ := k3.2 s' hs'
          obtain ⟨mk, mo, g1, g2⟩ := h3.ex
          refine ⟨pre, b2, f1, f2, f3, f4, f5, f6, (W.map (·.1) ++ [x2], mk) :: mo ++ more, ?_, fun y hy => ?_⟩
          · rw [f7, g1, List.append_assoc]
          · rcases List.mem_append.mp hy with hy | hy
            · rcases List.mem_cons.mp hy with rfl | hy
              · exact ⟨[x2], by simp, rfl⟩
              · obtain ⟨r, hr, er⟩ := g2 y hy
                exact ⟨[x2] ++ r, by simp, by rw [er]; exact List.append_assoc _ _ _⟩
            · exact f8 y hy
        have ent : rdMore (rdEntry (rdTable n) (kp (W.map (·.1)))) (k + 1) s = (rdEntry (rdTable n) (kp (W.map (·.1))) s.step).bind (rdMore (rdEntry (rdTable n) (kp (W.map (·.1)))) k) := by
          show (if _ then _ else _) = _
          rw [if_pos hw]
        have stt : a.steps ([t].map tw) = some { a with ph := .key, way := W } := Au.steps_one st1
        refine ⟨fun p hp => ?_, fun s' hs' => ?_⟩
        · rw [ent] at hp
          have := (k2.1 p hp).later stt
          rw [w2] at this
          rw [ea]
          exact this
        · rw [ent] at hs'
          obtain ⟨pre, b, f1, f2, f3, f4, f5⟩ := k2.2 s' hs'
          refine ⟨t :: pre, b, ?_, ?_, f3, f4, f5⟩
          · rw [ea, ← w2, f1]; rfl
          · exact (Au.steps_app (r2 := pre.map tw) stt).trans f2
    · have ent : rdMore (rdEntry (rdTable n) (kp (W.map (·.1)))) (k + 1) s = .ok s := by
        show (if _ then _ else _) = _
        rw [if_neg hw]
      refine ⟨fun p hp => ?_, fun s' hs' => ?_⟩
      · rw [ent] at hp; cases hp
      · rw [ent] at hs'
        injection hs' with hs'
        subst hs'
        exact ⟨[], a, rfl, rfl, hs, rfl, ha.ph, ⟨x, c, e1⟩, [], by simp, fun y hy => by cases hy⟩
theorem keeps_close {a : Au} {s : Rd} {W : List (Str × Nat)} (hs : SimA s a) (ph : a.ph = .after) (hw : ∃ x c, a.way = W ++ [(x, c)]) (hn : s.word ≠ ",") : Keeps (rdTake "}") a s (fun b => b.ph = (if W = [] then .done else .after) ∧ b.way = W ∧ b.ms = a.ms) := by
  obtain ⟨x, c, ew⟩ := hw
  have st : a.step "}" = some { a with ph := (if W = [] then .done else .after), way := W } := by
    unfold Au.step
    rw [ph]
    show (if _ then _ else if _ then _ else _) = _
    rw [if_neg (fun h => absurd h.1 (by decide +kernel)), if_pos rfl, ew, List.dropLast_concat]
  refine ⟨fun p hp => ?_, fun s' hs' => ?_⟩
  · unfold rdTake at hp
    by_cases e : s.word = "}"
    · rw [if_pos e] at hp; cases hp
    · rw [if_neg e] at hp
      injection hp with hp
      subst hp
      refine fail_now (by rw [ph]; intro h; cases h) fun t r h => ?_
      have w1 := (word_of h).1
      unfold Au.step
      rw [ph]
      show (if _ then _ else if _ then _ else _) = _
      rw [if_neg (fun h => hn (by rw [w1]; exact h.1)), if_neg (fun h => e (by rw [w1]; exact h))]
  · unfold rdTake at hs'
    by_cases e : s.word = "}"
    · rw [if_pos e] at hs'
      injection hs' with hs'
      subst hs'
      cases ea : s.ah with
      | nil => rw [word_nil ea] at e; exact absurd e (by decide +kernel)
      | cons t r =>
        obtain ⟨w1, w2, _⟩ := word_of ea
        refine ⟨[t], { a with ph := (if W = [] then .done else .after), way := W }, by rw [w2]; rfl, ?_, hs.step rfl rfl rfl, rfl, rfl, rfl, rfl⟩
        show a.steps [tw t] = _
        rw [← w1, e]
        exact Au.steps_one st
    · rw [if_neg e] at hs'; cases hs'
theorem keeps_table : ∀ n, TabK n
  | 0 => fun a s hs wf ph hl fr hk => by
    have dn : a.ph ≠ .done := by rcases ph with e | e <;> rw [e] <;> intro h <;> cases h
    refine ⟨fun p hp => ?_, fun s' hs' => by cases hs'⟩
    have hp : Except.error s.pos = Except.error p := hp
    injection hp with hp
    subst hp
    refine fail_now dn fun t r ht => ?_
    have w1 := (word_of ht).1
    unfold Au.step
    rcases ph with e | e <;> rw [e]
    · exact if_neg fun h => by omega
    · show (if _ then (if _ then _ else _) else if _ then _ else _) = _
      have hkk := hk e
      rw [w1] at hkk
      by_cases hm : modes.contains (tw t) = true
      · rw [if_pos hm, if_neg (by omega)]
      · rw [if_neg hm, if_neg (by rw [hkk]; exact fun h => Bool.false_ne_true h.1)]
  | n + 1 => fun a s hs wf ph hl fr hk => by
    have hT := keeps_table n
    rw [table_eq]
    refine Keeps.bind ((keeps_mode hs ph (by omega) fr hk).wf wf) ?_
    rintro s1 b1 _ hs1 ⟨⟨p1, e1, mk, m1⟩, wf1⟩
    have epl : b1.pl = a.pl := by show b1.way.map _ = _; rw [e1]
    refine Keeps.bind (keeps_take (b := { b1 with ph := .key }) (by rw [p1]; intro h; cases h) (by decide +kernel) hs1 (by unfold Au.step; rw [p1]; exact if_pos rfl) (fun y hy => by unfold Au.step; rw [p1]; exact if_neg hy) rfl rfl rfl) ?_
    rintro s2 b2 _ hs2 rfl
    have wf2 : WF { b1 with ph := .key } := wf1.step (x := "{") (by unfold Au.step; rw [p1]; exact if_pos rfl)
    have epl2 : Au.pl { b1 with ph := .key } = a.pl := epl
    have k2 := (keeps_entry hT hs2 wf2 rfl (by show b1.way.length + n = 3; rw [e1]; omega)).wf wf2
    rw [epl2] at k2
    refine Keeps.bind k2 ?_
    rintro s3 b3 _ hs3 ⟨⟨x3, p3, e3, g3⟩, wf3⟩
    have e3' : b3.way = a.way ++ [(x3, under b1.ms a.pl + 1)] := by rw [e3]; show b1.way ++ _ = _; rw [e1]
    have u1 : under b1.ms a.pl = 0 := by
      rw [m1, under_app]
      have h0 : under a.ms a.pl = 0 := wf.none fr
      have h1 : under [(a.pl, mk)] a.pl = 0 := by
        unfold under
        rw [List.filter_cons_of_neg (by rw [isChild_len (by simp)]; exact Bool.false_ne_true)]
        rfl
      omega
    have ha3 : Aft b3 a.way 2 := ⟨p3, x3, _, e3', g3.under.symm, by omega⟩
    refine Keeps.bind (keeps_more hT (by omega) 2 b3 s3 hs3 wf3 ha3) ?_
    rintro s4 b4 h4 hs4 ⟨p4, w4, more, m4, d4⟩
    have k5 := keeps_close hs4 p4 w4 (more_word h4)
    refine ⟨k5.1, fun s' hs' => ?_⟩
    obtain ⟨pre, b, f1, f2, f3, f4, f5, f6, f7⟩ := k5.2 s' hs'
    obtain ⟨mk3, mo3, g1, g2⟩ := g3.ex
    refine ⟨pre, b, f1, f2, f3, f4, f6, f5, mk, (a.pl ++ [x3], mk3) :: mo3 ++ more, ?_, fun y hy => ?_⟩
    · rw [f7, m4, g1]
      show (b1.ms ++ _) ++ _ = _
      rw [m1, List.append_assoc, List.append_assoc]
      rfl
    · rcases List.mem_append.mp hy with hy | hy
      · rcases List.mem_cons.mp hy with rfl | hy
        · exact ⟨[x3], by simp, rfl⟩
        · obtain ⟨r, hr, er⟩ := g2 y hy
          exact ⟨[x3] ++ r, by simp, by rw [er]; exact List.append_assoc _ _ _⟩
      · exact d4 y hy
end L2.G42

set_option Elab.async false
set_option linter.all false
set_option maxRecDepth 100000
set_option maxHeartbeats 4000000
namespace L2.G42
open PySem PySem.Spec
/-- each place once; how many -/
structure WG (a : Au) : Prop where
  nd : (a.ms.map (·.1)).Nodup
  new : a.ph = .whole ∨ a.ph = .colon ∨ a.ph = .item → a.pl ∉ a.ms.map (·.1)
  len : a.ms.length = a.nt + a.nb
  l1 : a.nt ≤ 6
  l2 : a.nb ≤ 6
theorem WG.more {a : Au} (h : WG a) (x : Str) (hn : a.pl ∉ a.ms.map (·.1)) : ((a.ms ++ [(a.pl, x)]).map (·.1)).Nodup := by
  rw [List.map_append]
  refine List.nodup_append.mpr ⟨h.nd, by simp, fun u hu v hv e => ?_⟩
  have : v = a.pl := by simpa using hv
  rw [e, this] at hu
  exact hn hu
theorem WG.step {a b : Au} {x : Str} (h : WG a) (e : a.step x = some b) : WG b := by
  have hlen := h.len
  have h1 := h.l1
  have h2 := h.l2
  unfold Au.step at e
  cases hp : a.ph with
  | whole =>
    rw [hp] at e
    simp only at e
    split at e
    · rename_i hc
      injection e with e
      subst e
      exact ⟨h.more x (h.new (.inl hp)), (fun hc => by rcases hc with hc | hc | hc <;> cases hc), by show (a.ms ++ [_]).length = a.nt + 1 + a.nb; rw [List.length_append]; simp; omega, by show a.nt + 1 ≤ 6; omega, h2⟩
    · cases e
  | open_ =>
    rw [hp] at e
    simp only at e
    split at e
    · injection e with e
      subst e
      exact ⟨h.nd, (fun hc => by rcases hc with hc | hc | hc <;> cases hc), hlen, h1, h2⟩
    · cases e
  | key =>
    rw [hp] at e
    simp only at e
    split at e
    · rename_i hc
      injection e with e
      subst e
      refine ⟨h.nd, fun _ => ?_, hlen, h1, h2⟩
      show (a.way ++ [(x, under a.ms a.pl + 1)]).map (·.1) ∉ _
      rw [List.map_append]
      exact hc.2
    · cases e
  | colon =>
    rw [hp] at e
    simp only at e
    split at e
    · injection e with e
      subst e
      exact ⟨h.nd, fun _ => h.new (.inr (.inl hp)), hlen, h1, h2⟩
    · cases e
  | item =>
    rw [hp] at e
    simp only at e
    split at e
    · split at e
      · rename_i hc
        injection e with e
        subst e
        exact ⟨h.more x (h.new (.inr (.inr hp))), (fun hc => by rcases hc with hc | hc | hc <;> cases hc), by show (a.ms ++ [_]).length = a.nt + 1 + a.nb; rw [List.length_append]; simp; omega, by show a.nt + 1 ≤ 6; omega, h2⟩
      · cases e
    · split at e
      · rename_i hc
        injection e with e
        subst e
        exact ⟨h.more x (h.new (.inr (.inr hp))), (fun hc => by rcases hc with hc | hc | hc <;> cases hc), by show (a.ms ++ [_]).length = a.nt + (a.nb + 1); rw [List.length_append]; simp; omega, h1, by show a.nb + 1 ≤ 6; omega⟩
      · cases e
  | after =>
    rw [hp] at e
    simp only at e
    split at e
    · injection e with e
      subst e
      exact ⟨h.nd, (fun hc => by rcases hc with hc | hc | hc <;> cases hc), hlen, h1, h2⟩
    · split at e
      · injection e with e
        subst e
        refine ⟨h.nd, fun hc => ?_, hlen, h1, h2⟩
        have : ∀ q : Ph, q = .whole ∨ q = .colon ∨ q = .item → (if a.way.dropLast = [] then Ph.done else Ph.after) ≠ q := fun q hq => by
          split <;> rcases hq with e | e | e <;> rw [e] <;> intro h <;> cases h
        rcases hc with hc | hc | hc
        · exact absurd hc (this _ (.inl rfl))
        · exact absurd hc (this _ (.inr (.inl rfl)))
        · exact absurd hc (this _ (.inr (.inr rfl)))
      · cases e
  | done => rw [hp] at e; cases e
theorem WG.steps : ∀ {r : List Str} {a b : Au}, WG a → a.steps r = some b → WG b
  | [], a, b, h, e => by
    injection e with e
    rw [← e]
    exact h
  | x :: r, a, b, h, e => by
    rw [Au.steps, Option.bind_eq_some_iff] at e
    obtain ⟨c, h1, h2⟩ := e
    exact (h.step h1).steps h2
def Au.start : Au := ⟨.whole, [], [], 0, 0⟩
theorem start_wf : WF Au.start := ⟨fun q hq => (by cases hq), fun u r e hr => by
  have e : [] = u ++ r := e
  have := congrArg List.length e
  simp at this
  exact absurd (List.length_eq_zero_iff.mp (by omega)) hr, fun h => by rcases h with h | h <;> cases h⟩
theorem start_wg : WG Au.start := ⟨List.nodup_nil, fun _ h => (by cases h), rfl, by decide, by decide⟩
/-- what the law says of a row of tokens: the index of the first wrong one, or the marks -/
def dueW : Au → List Str → Nat → Nat ⊕ List (List Str × Str)
  | a, [], k => if a.ph = .done then .inr a.ms else .inl k
  | a, x :: r, k => match a.step x with
    | none => .inl k
    | some b => dueW b r (k + 1)
theorem dueW_steps : ∀ {r r2 : List Str} {a b : Au} {k : Nat}, a.steps r = some b → dueW a (r ++ r2) k = dueW b r2 (k + r.length)
  | [], r2, a, b, k, h => by
    injection h with h
    rw [h]
    rfl
  | x :: r, r2, a, b, k, h => by
    rw [Au.steps, Option.bind_eq_some_iff] at h
    obtain ⟨c, h1, h2⟩ := h
    rw [List.cons_append, dueW, h1]
    show dueW c (r ++ r2) (k + 1) = _
    rw [dueW_steps h2, List.length_cons]
    congr 1
    omega
/-- where the i-th token begins, or the text ends -/
def startAt (ts : List (Nat × List Nat)) (size i : Nat) : Nat := (ts[i]?.map (·.1)).getD size
theorem Fail.due {a : Au} {ts : List (Nat × List Nat)} {size p : Nat} (h : Fail a ts size p) : ∃ j, dueW a (ts.map tw) 0 = .inl j ∧ p = startAt ts size j := by
  obtain ⟨pre, rest, b, e, h1, h2⟩ := h
  rcases h2 with ⟨t, r, e2, h3, e4⟩ | ⟨e2, h3, e4⟩
  · refine ⟨pre.length, ?_, ?_⟩
    · rw [e, e2, List.map_append, dueW_steps h1, List.map_cons, dueW, h3]
      simp
    · unfold startAt
      rw [e, e2, List.getElem?_append_right (Nat.le_refl _), Nat.sub_self, e4]
      rfl
  · refine ⟨pre.length, ?_, ?_⟩
    · rw [e, e2, List.append_nil]
      have := dueW_steps (r2 := []) (k := 0) h1
      rw [List.append_nil] at this
      rw [this, dueW, if_neg h3]
      simp
    · unfold startAt
      rw [e, e2, List.append_nil, List.getElem?_eq_none (Nat.le_refl _), e4]
      rfl
/-- THE WHOLE of reading -/
theorem read_due (z : Str) : (∀ p, rdWhole (rdStart z) = .error p → ∃ j, dueW Au.start ((toks 0 z.cps.toList).map tw) 0 = .inl j ∧ p = startAt (toks 0 z.cps.toList) z.length j) ∧
    ∀ s, rdWhole (rdStart z) = .ok s → ∃ ms, dueW Au.start ((toks 0 z.cps.toList).map tw) 0 = .inr ms ∧ s.marks = kmk ms ∧ MsOk ms := by
  have s0 : SimA (rdStart z) Au.start := ⟨rfl, rfl, rfl, by decide, by decide⟩
  have k := keeps_table 4 Au.start (rdStart z) s0 start_wf (.inl rfl) rfl (fun h => by cases h) (fun h => by cases h)
  have ah0 : (rdStart z).ah = toks 0 z.cps.toList := rfl
  have ep : kp Au.start.pl = [] := rfl
  rw [ep] at k
  refine ⟨fun p hp => ?_, fun s hs => ?_⟩
  · unfold rdWhole at hp
    cases e : rdTable 4 [] (rdStart z) with
    | error q =>
      rw [e] at hp
      injection hp with hp
      subst hp
      have := (k.1 _ e).due
      rw [ah0] at this
      exact this
    | ok s2 =>
      rw [e] at hp
      have hp : (if s2.at_ < s2.toks.length then Except.error s2.pos else Except.ok s2) = Except.error p := hp
      obtain ⟨pre, b, f1, f2, f3, f4, f5, f6, f7⟩ := k.2 s2 e
      split at hp
      · rename_i hlt
        injection hp with hp
        subst hp
        cases ea : s2.ah with
        | nil =>
          unfold Rd.ah at ea
          rw [List.drop_eq_nil_iff] at ea
          omega
        | cons t r =>
          have : Fail Au.start (rdStart z).ah (rdStart z).size s2.pos := ⟨pre, t :: r, b, by rw [f1, ea], f2, .inl ⟨t, r, rfl, by unfold Au.step; rw [f6]; rfl, posA_of ea⟩⟩
          exact this.due
      · cases hp
  · unfold rdWhole at hs
    cases e : rdTable 4 [] (rdStart z) with
    | error q => rw [e] at hs; cases hs
    | ok s2 =>
      rw [e] at hs
      have hs : (if s2.at_ < s2.toks.length then Except.error s2.pos else Except.ok s2) = Except.ok s := hs
      split at hs
      · cases hs
      · rename_i hge
        injection hs with hs
        subst hs
        obtain ⟨pre, b, f1, f2, f3, f4, f5, f6, f7⟩ := k.2 s2 e
        have ea : s2.ah = [] := by
          unfold Rd.ah
          rw [List.drop_eq_nil_iff]
          omega
        rw [ea, List.append_nil, ah0] at f1
        refine ⟨b.ms, ?_, f3.ms, ?_⟩
        · rw [f1]
          have := dueW_steps (r2 := []) (k := 0) f2
          rw [List.append_nil] at this
          rw [this, dueW, if_pos (by rw [f6]; rfl)]
        · have wg := start_wg.steps f2
          obtain ⟨mk, more, g1, _⟩ := f7.ex
          have h3 := wg.l1
          have h4 := wg.l2
          have h5 := wg.len
          exact ⟨DiffBy.of wg.nd, by omega, ([], mk), more, g1, rfl⟩
end L2.G42

set_option Elab.async false
set_option linter.all false
set_option maxRecDepth 100000
set_option maxHeartbeats 4000000
/-! the automaton in the heap: lists of rows, as a law's own reader keeps them -/
namespace L2.G42
open PySem PySem.Spec
/-- the heap's tuples stay -/
def TupK (H H' : Hp) : Prop := ∀ b xs, H b = some (.tup xs) → H' b = some (.tup xs)
theorem TupK.but {H H' : Hp} (g : But (fun _ => False) H H') : TupK H H' := fun b xs h => g b _ h id
theorem TupK.upd {H : Hp} {a : Addr} {xs : List V} {o : HO} (h : H a = some (.lst xs)) : TupK H (upd H a o) := fun b ys hb => by
  rw [upd_ne (fun e => by rw [e, h] at hb; cases hb)]
  exact hb
theorem TupK.trans {H H1 H2 : Hp} (a : TupK H H1) (b : TupK H1 H2) : TupK H H2 := fun x ys h => b x ys (a x ys h)
def RowM (H : Hp) (v : V) (m : List Str × Str) : Prop := ∃ q p, v = .ref q ∧ H q = some (.tup [.ref p, .str m.2]) ∧ H p = some (.tup (m.1.map V.str))
def RowW (H : Hp) (v : V) (x : Str × Nat) : Prop := ∃ q, v = .ref q ∧ H q = some (.tup [.str x.1, .int (x.2 : Nat)])
theorem RowM.tups {H H' : Hp} {v : V} {m : List Str × Str} (h : RowM H v m) (g : TupK H H') : RowM H' v m := let ⟨q, p, e, h1, h2⟩ := h; ⟨q, p, e, g _ _ h1, g _ _ h2⟩
theorem RowW.tups {H H' : Hp} {v : V} {m : Str × Nat} (h : RowW H v m) (g : TupK H H') : RowW H' v m := let ⟨q, e, h1⟩ := h; ⟨q, e, g _ _ h1⟩
/-- pair by pair -/
def All2 {α : Type} (R : V → α → Prop) (vs : List V) (ms : List α) : Prop := vs.length = ms.length ∧ ∀ (i : Nat) v m, vs[i]? = some v → ms[i]? = some m → R v m
theorem All2.nil {α : Type} {R : V → α → Prop} : All2 R [] [] := ⟨rfl, fun i v m h => by simp at h⟩
theorem All2.mono {α : Type} {R R' : V → α → Prop} {vs : List V} {ms : List α} (h : All2 R vs ms) (f : ∀ v m, R v m → R' v m) : All2 R' vs ms := ⟨h.1, fun i v m a b => f v m (h.2 i v m a b)⟩
theorem All2.snoc {α : Type} {R : V → α → Prop} {vs : List V} {ms : List α} {v : V} {m : α} (h : All2 R vs ms) (hr : R v m) : All2 R (vs ++ [v]) (ms ++ [m]) := by
  refine ⟨by simp [h.1], fun i u n hu hn => ?_⟩
  rcases Nat.lt_trichotomy i vs.length with z | z | z
  · rw [List.getElem?_append_left z] at hu
    rw [List.getElem?_append_left (by rw [← h.1]; exact z)] at hn
    exact h.2 i u n hu hn
  · rw [List.getElem?_append_right (by omega), show i - vs.length = 0 by omega] at hu
    rw [List.getElem?_append_right (by have := h.1; omega), show i - ms.length = 0 by have := h.1; omega] at hn
    injection hu with hu
    injection hn with hn
    rw [← hu, ← hn]
    exact hr
  · rw [List.getElem?_eq_none (by simp; omega)] at hu
    cases hu
theorem All2.init {α : Type} {R : V → α → Prop} {vs : List V} {ms : List α} (h : All2 R vs ms) : All2 R vs.dropLast ms.dropLast := by
  refine ⟨by simp [h.1], fun i u n hu hn => ?_⟩
  have i1 : i < vs.dropLast.length := by
    rcases Nat.lt_or_ge i vs.dropLast.length with z | z
    · exact z
    · rw [List.getElem?_eq_none z] at hu; cases hu
  have i2 : i < ms.dropLast.length := by
    rcases Nat.lt_or_ge i ms.dropLast.length with z | z
    · exact z
    · rw [List.getElem?_eq_none z] at hn; cases hn
  rw [List.getElem?_eq_getElem i1, List.getElem_dropLast] at hu
  rw [List.getElem?_eq_getElem i2, List.getElem_dropLast] at hn
  rw [List.length_dropLast] at i1 i2
  exact h.2 i u n (by rw [List.getElem?_eq_getElem (by omega)]; exact hu) (by rw [List.getElem?_eq_getElem (by omega)]; exact hn)
theorem All2.at {α : Type} {R : V → α → Prop} {vs : List V} {ms : List α} (h : All2 R vs ms) {i : Nat} {v : V} (hv : vs[i]? = some v) : ∃ m, ms[i]? = some m ∧ R v m := by
  have i1 : i < vs.length := by
    rcases Nat.lt_or_ge i vs.length with z | z
    · exact z
    · rw [List.getElem?_eq_none z] at hv; cases hv
  have i2 : i < ms.length := by rw [← h.1]; exact i1
  exact ⟨ms[i], List.getElem?_eq_getElem i2, h.2 i v _ hv (List.getElem?_eq_getElem i2)⟩
theorem All2.dp {α : Type} {K : PySem.W.Frag} {H : Hp} {R : V → α → Prop} {d : α → PyData} (f : ∀ v m, R v m → Dp K H v (d m)) : ∀ {vs : List V} {ms : List α}, All2 R vs ms → DpAll K H vs (ms.map d)
  | [], [], _ => .nil
  | v :: vs, m :: ms, h => .cons (f v m (h.2 0 v m rfl rfl)) (All2.dp f ⟨by have := h.1; simp at this; exact this, fun i u n hu hn => h.2 (i + 1) u n hu hn⟩)
  | [], _ :: _, h => by have := h.1; simp at this
  | _ :: _, [], h => by have := h.1; simp at this
theorem RowM.dp {K : PySem.W.Frag} {H : Hp} {v : V} {m : List Str × Str} (h : RowM H v m) : Dp K H v (.tuple [.tuple (dS m.1), .str m.2]) := by
  obtain ⟨q, p, rfl, h1, h2⟩ := h
  exact .tup (SqT.of h1) (.cons (dpT (SqT.of h2)) (.cons (.str _) .nil))
def dW (x : Str × Nat) : PyData := .tuple [.str x.1, .int (x.2 : Nat)]
theorem RowW.dp {K : PySem.W.Frag} {H : Hp} {v : V} {m : Str × Nat} (h : RowW H v m) : Dp K H v (dW m) := by
  obtain ⟨q, rfl, h1⟩ := h
  exact .tup (SqT.of h1) (.cons (.str _) (.cons (.int _) .nil))
theorem can_way : ∀ ws : List (Str × Nat), (∀ x ∈ ws, PyData.strOk x.1 = true) → PyData.canLayAll0 (ws.map dW) = true
  | [], _ => by simp [PyData.canLayAll0]
  | x :: ws, h => by
    show PyData.canLayAll0 (dW x :: ws.map dW) = true
    rw [PyData.canLayAll0, can_way ws fun y hy => h y (List.mem_cons_of_mem _ hy)]
    simp [dW, PyData.canLay0, PyData.canLayAll0, h x List.mem_cons_self]
theorem dep_way : ∀ ws : List (Str × Nat), PyData.depthAll (ws.map dW) ≤ 1
  | [] => by simp [PyData.depthAll]
  | x :: ws => by
    show PyData.depthAll (dW x :: ws.map dW) ≤ 1
    have := dep_way ws
    rw [PyData.depthAll]
    simp [dW, PyData.depth, PyData.depthAll]
    omega
theorem shaped_way {ws : List (Str × Nat)} (h : ∀ x ∈ ws, PyData.strOk x.1 = true) : SeqAt.shaped (.list (ws.map dW)) = true := by
  have := dep_way ws
  refine Bool.and_eq_true_iff.mpr ⟨?_, decide_eq_true ?_⟩
  · rw [PyData.canLay0]; exact can_way ws h
  · rw [PyData.depth]
    omega
/-- the phases' names -/
def Ph.nm : Ph → Str
  | .whole => "whole"
  | .open_ => "open"
  | .key => "key"
  | .colon => "colon"
  | .item => "item"
  | .after => "after"
  | .done => "done"
structure AuAt (H : Hp) (ma wa ca : Addr) (a : Au) (vs ws : List V) : Prop where
  m : H ma = some (.lst vs)
  w : H wa = some (.lst ws)
  c : H ca = some (.lst [.int (a.nt : Nat), .int (a.nb : Nat)])
  hm : All2 (RowM H) vs a.ms
  hw : All2 (RowW H) ws a.way
  n1 : ma ≠ wa
  n2 : ma ≠ ca
  n3 : wa ≠ ca
namespace AuAt
variable {H H' : Hp} {ma wa ca : Addr} {a : Au} {vs ws : List V}
theorem grow (h : AuAt H ma wa ca a vs ws) (g : But (fun _ => False) H H') : AuAt H' ma wa ca a vs ws :=
  ⟨g _ _ h.m id, g _ _ h.w id, g _ _ h.c id, h.hm.mono fun _ _ r => r.tups (.but g), h.hw.mono fun _ _ r => r.tups (.but g), h.n1, h.n2, h.n3⟩
theorem phase (h : AuAt H ma wa ca a vs ws) {b : Au} (e1 : b.ms = a.ms) (e2 : b.way = a.way) (e3 : b.nt = a.nt) (e4 : b.nb = a.nb) : AuAt H ma wa ca b vs ws := by
  obtain ⟨_, _, _, _, _⟩ := b
  subst e1 e2 e3 e4
  exact ⟨h.m, h.w, h.c, h.hm, h.hw, h.n1, h.n2, h.n3⟩
theorem count (h : AuAt H ma wa ca a vs ws) (nt nb : Nat) : AuAt (upd H ca (.lst [.int (nt : Nat), .int (nb : Nat)])) ma wa ca { a with nt := nt, nb := nb } vs ws :=
  ⟨by rw [upd_ne h.n2]; exact h.m, by rw [upd_ne h.n3]; exact h.w, upd_same, h.hm.mono fun _ _ r => r.tups (.upd h.c), h.hw.mono fun _ _ r => r.tups (.upd h.c), h.n1, h.n2, h.n3⟩
theorem mark (h : AuAt H ma wa ca a vs ws) {q p : Addr} {x : Str} (hq : H q = some (.tup [.ref p, .str x])) (hp : H p = some (.tup (a.pl.map V.str))) : AuAt (upd H ma (.lst (vs ++ [.ref q]))) ma wa ca { a with ms := a.ms ++ [(a.pl, x)] } (vs ++ [.ref q]) ws :=
  ⟨upd_same, by rw [upd_ne h.n1.symm]; exact h.w, by rw [upd_ne h.n2.symm]; exact h.c, All2.snoc (h.hm.mono fun _ _ r => r.tups (.upd h.m)) ⟨q, p, rfl, TupK.upd h.m _ _ hq, TupK.upd h.m _ _ hp⟩, h.hw.mono fun _ _ r => r.tups (.upd h.m), h.n1, h.n2, h.n3⟩
theorem push (h : AuAt H ma wa ca a vs ws) {q : Addr} {x : Str} {c : Nat} (hq : H q = some (.tup [.str x, .int (c : Nat)])) : AuAt (upd H wa (.lst (ws ++ [.ref q]))) ma wa ca { a with way := a.way ++ [(x, c)] } vs (ws ++ [.ref q]) :=
  ⟨by rw [upd_ne h.n1]; exact h.m, upd_same, by rw [upd_ne h.n3.symm]; exact h.c, h.hm.mono fun _ _ r => r.tups (.upd h.w), All2.snoc (h.hw.mono fun _ _ r => r.tups (.upd h.w)) ⟨q, rfl, TupK.upd h.w _ _ hq⟩, h.n1, h.n2, h.n3⟩
theorem pop (h : AuAt H ma wa ca a vs ws) : AuAt (upd H wa (.lst ws.dropLast)) ma wa ca { a with way := a.way.dropLast } vs ws.dropLast :=
  ⟨by rw [upd_ne h.n1]; exact h.m, upd_same, by rw [upd_ne h.n3.symm]; exact h.c, h.hm.mono fun _ _ r => r.tups (.upd h.w), All2.init (h.hw.mono fun _ _ r => r.tups (.upd h.w)), h.n1, h.n2, h.n3⟩
end AuAt
/-- keys are keys; where there is a way -/
structure WH (a : Au) : Prop where
  kw : ∀ x ∈ a.way, isKey x.1 = true
  km : ∀ q ∈ a.ms, q.1.length ≤ 4 ∧ ∀ y ∈ q.1, isKey y = true
  ne : a.ph = .colon ∨ a.ph = .item ∨ a.ph = .after → a.way ≠ []
  wl : a.way.length ≤ 4
  wk : a.ph = .open_ ∨ a.ph = .key → a.way.length ≤ 3
theorem WH.pl {a : Au} (h : WH a) : ∀ y ∈ a.pl, isKey y = true := fun y hy => by
  obtain ⟨x, hx, rfl⟩ := List.mem_map.mp hy
  exact h.kw x hx
theorem WH.so {a : Au} (h : WH a) : SoAll a.pl := fun y hy => key_so (h.pl y hy)
theorem WH.start : WH Au.start := ⟨(fun _ h => by cases h), (fun _ h => by cases h), (fun h => by rcases h with h | h | h <;> cases h), by decide, fun _ => by decide⟩
theorem WH.step {a b : Au} {x : Str} (h : WH a) (e : a.step x = some b) : WH b := by
  have km' : ∀ q ∈ a.ms ++ [(a.pl, x)], q.1.length ≤ 4 ∧ ∀ y ∈ q.1, isKey y = true := fun q hq => by
    rcases List.mem_append.mp hq with hq | hq
    · exact h.km q hq
    · rw [List.mem_singleton.mp hq]
      exact ⟨by show (a.way.map (·.1)).length ≤ 4; rw [List.length_map]; exact h.wl, h.pl⟩
  have dr : ∀ y ∈ a.way.dropLast, isKey y.1 = true := fun y hy => h.kw y (List.dropLast_subset _ hy)
  have hwl := h.wl
  unfold Au.step at e
  split at e
  · split at e
    · rename_i hp hc
      injection e with e
      subst e
      exact ⟨h.kw, km', (fun q => by rcases q with q | q | q <;> cases q), h.wl, fun _ => hc.2.2⟩
    · cases e
  · rename_i hp
    split at e
    · split at e
      · rename_i hc
        injection e with e
        subst e
        exact ⟨h.kw, km', (fun q => by rcases q with q | q | q <;> cases q), h.wl, fun _ => hc.2⟩
      · cases e
    · split at e
      · injection e with e
        subst e
        exact ⟨h.kw, km', fun _ => h.ne (.inr (.inl hp)), h.wl, (fun q => by rcases q with q | q <;> cases q)⟩
      · cases e
  · rename_i hp
    split at e
    · injection e with e
      subst e
      exact ⟨h.kw, h.km, (fun q => by rcases q with q | q | q <;> cases q), h.wl, fun _ => h.wk (.inl hp)⟩
    · cases e
  · rename_i hp
    split at e
    · rename_i hc
      injection e with e
      subst e
      have := h.wk (.inr hp)
      refine ⟨fun y hy => ?_, h.km, fun _ q => by simp at q, by simp; omega, (fun q => by rcases q with q | q <;> cases q)⟩
      rcases List.mem_append.mp hy with hy | hy
      · exact h.kw y hy
      · rw [List.mem_singleton.mp hy]
        exact hc.1
    · cases e
  · rename_i hp
    split at e
    · injection e with e
      subst e
      exact ⟨h.kw, h.km, fun _ => h.ne (.inl hp), h.wl, (fun q => by rcases q with q | q <;> cases q)⟩
    · cases e
  · rename_i hp
    split at e
    · injection e with e
      subst e
      exact ⟨dr, h.km, (fun q => by rcases q with q | q | q <;> cases q), by simp; omega, fun _ => by simp; omega⟩
    · split at e
      · injection e with e
        subst e
        refine ⟨dr, h.km, fun q => ?_, by simp; omega, fun q => ?_⟩
        · intro e0
          replace e0 : a.way.dropLast = [] := e0
          have q : (if a.way.dropLast = [] then Ph.done else Ph.after) = .colon ∨ (if a.way.dropLast = [] then Ph.done else Ph.after) = .item ∨ (if a.way.dropLast = [] then Ph.done else Ph.after) = .after := q
          rw [if_pos e0] at q
          rcases q with q | q | q <;> cases q
        · exfalso
          by_cases e0 : a.way.dropLast = []
          · simp only [e0, if_true] at q
            rcases q with q | q <;> cases q
          · simp only [if_neg e0] at q
            rcases q with q | q <;> cases q
      · cases e
  · cases e
/-- one token: the law's own automaton -/
def spState : Sp := fun vs H Q _ => ∃ (ma wa ca : Addr) (a : Au) (us ws : List V) (x : Str), vs = [.str a.ph.nm, .str x, .ref ma, .ref wa, .ref ca] ∧ AuAt H ma wa ca a us ws ∧ WH a ∧ WG a ∧ x.length ≤ 1000 ∧
  ∀ H' : Hp, But (fun b => b = ma ∨ b = wa ∨ b = ca) H H' → match a.step x with
    | none => Q (.str "wrong") H'
    | some b => (∀ us' ws', AuAt H' ma wa ca b us' ws' → Q (.str b.ph.nm) H')
/-- the marks as the law's own list -/
def MsAt (H : Hp) (l : Addr) (ms : List (List Str × Str)) : Prop := ∃ vs, H l = some (.lst vs) ∧ All2 (RowM H) vs ms
/-- what is due: ("wrong", number) or ("right", marks) -/
def spDue (K : PySem.W.Frag) : Sp := fun vs H Q _ => ∃ (tl : Addr) (ts : List Str), vs = [.ref tl] ∧ SqL K H tl (ts.map V.str) ∧ ts.length ≤ 6000 ∧ (∀ t ∈ ts, t.length ≤ 1000) ∧
  (∀ j, dueW Au.start ts 0 = .inl j → ∀ (r : Addr) (H' : Hp), H r = none → But (fun _ => False) H H' → H' r = some (.tup [.str "wrong", .int (j : Nat)]) → Q (.ref r) H') ∧
    (∀ ms, dueW Au.start ts 0 = .inr ms → (∀ q ∈ ms, q.1.length ≤ 4 ∧ ∀ y ∈ q.1, isKey y = true) → ∀ (r l : Addr) (H' : Hp), H r = none → H l = none → But (fun _ => False) H H' → MsAt H' l ms → H' r = some (.tup [.str "right", .ref l]) → Q (.ref r) H')
end L2.G42

set_option Elab.async false
set_option linter.all false
set_option maxRecDepth 100000
set_option maxHeartbeats 4000000
/-! a row of tokens that is read: what is wanted at each, which keys stand above -/
namespace L2.G42
open PySem PySem.Spec
theorem due_steps : ∀ (ts : List Str) (a : Au) (k : Nat) (ms : List (List Str × Str)), dueW a ts k = .inr ms → ∃ b, a.steps ts = some b ∧ b.ph = .done ∧ b.ms = ms
  | [], a, k, ms, h => by
    rw [dueW] at h
    split at h
    · rename_i e
      injection h with h
      exact ⟨a, rfl, e, h⟩
    · cases h
  | x :: r, a, k, ms, h => by
    rw [dueW] at h
    split at h
    · cases h
    · rename_i b e
      obtain ⟨c, h1, h2⟩ := due_steps r b _ _ h
      exact ⟨c, by rw [Au.steps, e]; exact h1, h2⟩
/-- the state ahead of the k-th token -/
theorem steps_at : ∀ {ts : List Str} {a b : Au}, a.steps ts = some b → ∀ (k : Nat) (x : Str), ts[k]? = some x → ∃ c d, a.steps (ts.take k) = some c ∧ c.step x = some d ∧ d.steps (ts.drop (k + 1)) = some b
  | [], a, b, h, k, x, hx => by simp at hx
  | y :: r, a, b, h, 0, x, hx => by
    injection hx with hx
    subst hx
    rw [Au.steps, Option.bind_eq_some_iff] at h
    obtain ⟨d, h1, h2⟩ := h
    exact ⟨a, d, rfl, h1, h2⟩
  | y :: r, a, b, h, k + 1, x, hx => by
    rw [Au.steps, Option.bind_eq_some_iff] at h
    obtain ⟨e, h1, h2⟩ := h
    obtain ⟨c, d, g1, g2, g3⟩ := steps_at h2 k x hx
    exact ⟨c, d, by rw [List.take_succ_cons, Au.steps, h1]; exact g1, g2, g3⟩
/-- the scan back over the tokens behind -/
def bef : List Str → Nat → List Str
  | [], _ => []
  | x :: r, d => if x = "}" then bef r (d + 1) else if x = "{" then (if d = 0 then [] else bef r (d - 1)) else if x = ":" ∧ d = 0 then r.headD "" :: bef r d else bef r d
theorem bef_plain {x : Str} {r : List Str} {d : Nat} (h1 : x ≠ "}") (h2 : x ≠ "{") (h3 : x ≠ ":") : bef (x :: r) d = bef r d := by
  rw [bef, if_neg h1, if_neg h2, if_neg (fun q => h3 q.1)]
/-- the place of the open table that is d levels up -/
def tp (a : Au) (d : Nat) : Option (List Str) := match a.ph with
  | .key => if d ≤ a.pl.length then some (a.pl.take (a.pl.length - d)) else none
  | .whole => none
  | .done => none
  | _ => if d + 1 ≤ a.pl.length then some (a.pl.take (a.pl.length - 1 - d)) else none
def seen (a : Au) (q : List Str) (x : Str) : Prop := q ++ [x] ∈ a.ms.map (·.1) ∨ (a.ph = .item ∧ a.pl = q ++ [x])
structure BI (a : Au) (r : List Str) : Prop where
  key : ∀ d q, tp a d = some q → ∀ x, x ∈ bef r d ↔ seen a q x
  new : a.ph = .open_ → ∀ x, a.pl ++ [x] ∉ a.ms.map (·.1)
  col : a.ph = .colon → ∃ x0 r0 p0, r = x0 :: r0 ∧ a.pl = p0 ++ [x0]
  wh0 : a.ph = .whole → a.way = []
theorem plain_mode {x : Str} (h : modes.contains x = true) : x ≠ "}" ∧ x ≠ "{" ∧ x ≠ ":" := by
  have : x = "live" ∨ x = "copy" ∨ x = "kept" := by
    unfold modes at h
    simpa using h
  rcases this with rfl | rfl | rfl <;> decide +kernel
theorem plain_kind {x : Str} (h : kinds.contains x = true) : x ≠ "}" ∧ x ≠ "{" ∧ x ≠ ":" := by
  have : x = "*" ∨ x = "!" := by
    unfold kinds at h
    simpa using h
  rcases this with rfl | rfl <;> decide +kernel
theorem plain_key {x : Str} (h : isKey x = true) : x ≠ "}" ∧ x ≠ "{" ∧ x ≠ ":" ∧ x ≠ "," := by
  refine ⟨fun e => ?_, fun e => ?_, fun e => ?_, fun e => ?_⟩ <;> rw [e] at h <;> revert h <;> decide +kernel
theorem BI.mark {a b : Au} {r : List Str} {x : Str} (h : BI a r) (hw : a.ph = .item) (hp : b.ph = .open_ ∨ b.ph = .after) (e1 : b.way = a.way) (e2 : b.ms = a.ms ++ [(a.pl, x)]) (hx : x ≠ "}" ∧ x ≠ "{" ∧ x ≠ ":") : ∀ d q, tp b d = some q → ∀ y, y ∈ bef (x :: r) d ↔ seen b q y := by
  intro d q hq y
  have epl : b.pl = a.pl := by show b.way.map _ = a.way.map _; rw [e1]
  rw [bef_plain hx.1 hx.2.1 hx.2.2]
  have hq' : tp a d = some q := by
    unfold tp at hq ⊢
    rw [hw]
    rcases hp with hp | hp <;> rw [hp, epl] at hq <;> exact hq
  rw [h.key d q hq' y]
  unfold seen
  rw [e2, List.map_append]
  have nb : b.ph ≠ .item := fun e => by rcases hp with hp | hp <;> rw [hp] at e <;> cases e
  constructor
  · rintro (h1 | h1)
    · exact .inl (List.mem_append_left _ h1)
    · exact .inl (List.mem_append_right _ (by rw [h1.2]; simp))
  · rintro (h1 | h1)
    · rcases List.mem_append.mp h1 with h1 | h1
      · exact .inl h1
      · simp at h1
        exact .inr ⟨hw, h1.symm⟩
    · exact absurd h1.1 nb
theorem BI.step {a b : Au} {r : List Str} {x : Str} (h : BI a r) (wf : WF a) (wg : WG a) (wh : WH a) (e : a.step x = some b) : BI b (x :: r) := by
  have fresh : a.ph = .whole ∨ a.ph = .item → ∀ y, a.pl ++ [y] ∉ (a.ms ++ [(a.pl, x)]).map (·.1) := fun hp y hy => by
    rw [List.map_append] at hy
    rcases List.mem_append.mp hy with hy | hy
    · obtain ⟨q, hq, eq⟩ := List.mem_map.mp hy
      exact wf.fresh (wg.new (hp.elim .inl fun z => .inr (.inr z))) _ [y] rfl q hq eq
    · simp at hy
  unfold Au.step at e
  cases ep : a.ph with
  | whole =>
    rw [ep] at e
    dsimp only at e
    split at e
    · injection e with e
      subst e
      have h0 : a.way = [] := h.wh0 ep
      refine ⟨fun d q hq => ?_, fun _ => fresh (.inl ep), (fun q => by cases q), (fun q => by cases q)⟩
      unfold tp at hq
      have el : (a.way.map (·.1)).length = 0 := by rw [h0]; rfl
      have hq : (if d + 1 ≤ (a.way.map (·.1)).length then some ((a.way.map (·.1)).take ((a.way.map (·.1)).length - 1 - d)) else none) = some q := hq
      rw [el, if_neg (by omega)] at hq
      cases hq
    · cases e
  | open_ =>
    rw [ep] at e
    dsimp only at e
    split at e
    · rename_i hx
      injection e with e
      subst e
      subst hx
      refine ⟨fun d q hq y => ?_, (fun q => by cases q), (fun q => by cases q), (fun q => by cases q)⟩
      have hq : (if d ≤ a.pl.length then some (a.pl.take (a.pl.length - d)) else none) = some q := hq
      have sn : ∀ q y, seen { a with ph := .key } q y ↔ seen a q y := fun q y => by
        unfold seen
        constructor
        · rintro (h1 | h1)
          · exact .inl h1
          · cases h1.1
        · rintro (h1 | h1)
          · exact .inl h1
          · rw [ep] at h1
            cases h1.1
      rw [sn, bef, if_neg (by decide), if_pos rfl]
      split at hq
      · rename_i hd
        injection hq with hq
        by_cases d0 : d = 0
        · rw [if_pos d0]
          subst d0
          rw [Nat.sub_zero, List.take_length] at hq
          subst hq
          constructor
          · intro h1
            cases h1
          · rintro (h1 | h1)
            · exact absurd h1 (h.new ep y)
            · rw [ep] at h1
              cases h1.1
        · rw [if_neg d0]
          refine h.key (d - 1) q ?_ y
          unfold tp
          rw [ep]
          show (if d - 1 + 1 ≤ a.pl.length then some (a.pl.take (a.pl.length - 1 - (d - 1))) else none) = some q
          rw [if_pos (by omega), ← hq]
          congr 2
          omega
      · cases hq
    · cases e
  | key =>
    rw [ep] at e
    dsimp only at e
    split at e
    · rename_i hx
      injection e with e
      subst e
      obtain ⟨k1, k2, k3, _⟩ := plain_key hx.1
      have epl : (({ a with ph := .colon, way := a.way ++ [(x, under a.ms a.pl + 1)] } : Au).pl) = a.pl ++ [x] := by
        show (a.way ++ [(x, under a.ms a.pl + 1)]).map (·.1) = _
        rw [List.map_append]
        rfl
      refine ⟨fun d q hq y => ?_, (fun q => by cases q), fun _ => ⟨x, r, a.pl, rfl, epl⟩, (fun q => by cases q)⟩
      unfold tp at hq
      rw [epl] at hq
      have hq : (if d + 1 ≤ (a.pl ++ [x]).length then some ((a.pl ++ [x]).take ((a.pl ++ [x]).length - 1 - d)) else none) = some q := hq
      rw [List.length_append] at hq
      split at hq
      · rename_i hd
        injection hq with hq
        have hd' : d ≤ a.pl.length := by simpa using hd
        rw [show a.pl.length + [x].length - 1 - d = a.pl.length - d by simp, List.take_append_of_le_length (by omega)] at hq
        rw [bef_plain k1 k2 k3, h.key d q (by unfold tp; rw [ep]; show (if d ≤ a.pl.length then some (a.pl.take (a.pl.length - d)) else none) = some q; rw [if_pos hd', hq]) y]
        unfold seen
        constructor
        · rintro (h1 | h1)
          · exact .inl h1
          · rw [ep] at h1
            cases h1.1
        · rintro (h1 | h1)
          · exact .inl h1
          · cases h1.1
      · cases hq
    · cases e
  | colon =>
    rw [ep] at e
    dsimp only at e
    split at e
    · rename_i hx
      injection e with e
      subst e
      subst hx
      obtain ⟨x0, r0, p0, er, epl⟩ := h.col ep
      refine ⟨fun d q hq y => ?_, (fun q => by cases q), (fun q => by cases q), (fun q => by cases q)⟩
      have hq : (if d + 1 ≤ a.pl.length then some (a.pl.take (a.pl.length - 1 - d)) else none) = some q := hq
      have ht : tp a d = some q := by
        unfold tp
        rw [ep]
        exact hq
      have hk := h.key d q ht y
      have sa : seen a q y ↔ q ++ [y] ∈ a.ms.map (·.1) := by
        unfold seen
        constructor
        · rintro (h1 | h1)
          · exact h1
          · rw [ep] at h1
            cases h1.1
        · exact .inl
      rw [sa] at hk
      have sb : seen { a with ph := .item } q y ↔ q ++ [y] ∈ a.ms.map (·.1) ∨ a.pl = q ++ [y] := by
        unfold seen
        constructor
        · rintro (h1 | h1)
          · exact .inl h1
          · exact .inr h1.2
        · rintro (h1 | h1)
          · exact .inl h1
          · exact .inr ⟨rfl, h1⟩
      rw [sb, bef, if_neg (by decide), if_neg (by decide)]
      split at hq
      · rename_i hd
        injection hq with hq
        by_cases d0 : d = 0
        · rw [if_pos ⟨rfl, d0⟩]
          subst d0
          have eq : q = p0 := by
            rw [← hq, epl]
            simp
          rw [List.mem_cons, hk, er, epl, eq]
          show y = x0 ∨ _ ↔ _
          constructor
          · rintro (h1 | h1)
            · exact .inr (by rw [h1])
            · exact .inl h1
          · rintro (h1 | h1)
            · exact .inr h1
            · have := List.append_cancel_left h1
              injection this with this
              exact .inl this.symm
        · rw [if_neg (fun z => d0 z.2), hk]
          constructor
          · exact .inl
          · rintro (h1 | h1)
            · exact h1
            · exfalso
              have := congrArg List.length h1
              rw [← hq, List.length_append, List.length_take] at this
              simp at this
              simp at hd
              omega
      · cases hq
    · cases e
  | item =>
    rw [ep] at e
    dsimp only at e
    split at e
    · rename_i hx
      split at e
      · injection e with e
        subst e
        exact ⟨h.mark ep (.inl rfl) rfl rfl (plain_mode hx), fun _ => fresh (.inr ep), (fun q => by cases q), (fun q => by cases q)⟩
      · cases e
    · split at e
      · rename_i hx
        injection e with e
        subst e
        exact ⟨h.mark ep (.inr rfl) rfl rfl (plain_kind hx.1), (fun q => by cases q), (fun q => by cases q), (fun q => by cases q)⟩
      · cases e
  | after =>
    rw [ep] at e
    dsimp only at e
    have ta : ∀ d, tp a d = if d + 1 ≤ a.pl.length then some (a.pl.take (a.pl.length - 1 - d)) else none := fun d => by
      unfold tp
      rw [ep]
    have sa : ∀ (b : Au), b.ms = a.ms → b.ph ≠ .item → ∀ q y, seen b q y ↔ seen a q y := fun b e1 e2 q y => by
      unfold seen
      rw [e1]
      constructor
      · rintro (h1 | h1)
        · exact .inl h1
        · exact absurd h1.1 e2
      · rintro (h1 | h1)
        · exact .inl h1
        · rw [ep] at h1
          cases h1.1
    have dl : (a.way.dropLast.map (·.1)) = a.pl.dropLast := by rw [List.map_dropLast]
    split at e
    · rename_i hx
      injection e with e
      subst e
      refine ⟨fun d q hq y => ?_, (fun q => by cases q), (fun q => by cases q), (fun q => by cases q)⟩
      rw [sa { a with ph := .key, way := a.way.dropLast } rfl (fun z => by cases z)]
      have hq : (if d ≤ (a.way.dropLast.map (·.1)).length then some ((a.way.dropLast.map (·.1)).take ((a.way.dropLast.map (·.1)).length - d)) else none) = some q := hq
      rw [dl, List.length_dropLast] at hq
      have wne := wh.ne (.inr (.inr ep))
      have hlen : 1 ≤ a.pl.length := by
        rw [List.length_map]
        exact List.length_pos_iff.mpr wne
      rw [hx.1, bef_plain (by decide) (by decide) (by decide)]
      refine h.key d q ?_ y
      rw [ta]
      split at hq
      · injection hq with hq
        rw [if_pos (by omega), ← hq, List.dropLast_eq_take, List.take_take]
        congr 2
        omega
      · cases hq
    · split at e
      · rename_i hx
        injection e with e
        subst e
        subst hx
        have bp : ∀ z, ({ a with ph := if a.way.dropLast = [] then Ph.done else .after, way := a.way.dropLast } : Au).ph = z → z = .done ∨ z = .after := fun z hz => by
          have hz : (if a.way.dropLast = [] then Ph.done else .after) = z := hz
          split at hz
          · exact .inl hz.symm
          · exact .inr hz.symm
        refine ⟨fun d q hq y => ?_, (fun z => by rcases bp _ z with z | z <;> cases z), (fun z => by rcases bp _ z with z | z <;> cases z), (fun z => by rcases bp _ z with z | z <;> cases z)⟩
        rw [sa { a with ph := if a.way.dropLast = [] then Ph.done else .after, way := a.way.dropLast } rfl (fun z => by rcases bp _ z with z | z <;> cases z), bef, if_pos rfl]
        refine h.key (d + 1) q ?_ y
        rw [ta]
        by_cases w0 : a.way.dropLast = []
        · unfold tp at hq
          have e9 : ({ a with ph := if a.way.dropLast = [] then Ph.done else .after, way := a.way.dropLast } : Au).ph = .done := if_pos w0
          rw [e9] at hq
          cases hq
        · unfold tp at hq
          have e9 : ({ a with ph := if a.way.dropLast = [] then Ph.done else .after, way := a.way.dropLast } : Au).ph = .after := if_neg w0
          rw [e9] at hq
          have hq : (if d + 1 ≤ (a.way.dropLast.map (·.1)).length then some ((a.way.dropLast.map (·.1)).take ((a.way.dropLast.map (·.1)).length - 1 - d)) else none) = some q := hq
          rw [dl, List.length_dropLast] at hq
          split at hq
          · injection hq with hq
            rw [if_pos (by omega), ← hq, List.dropLast_eq_take, List.take_take]
            congr 2
            omega
          · cases hq
      · cases e
  | done =>
    rw [ep] at e
    cases e
theorem BI.start : BI Au.start [] := ⟨(fun d q h => by cases h), (fun h => by cases h), (fun h => by cases h), fun _ => rfl⟩
theorem BI.steps : ∀ {ts : List Str} {a b : Au} {r : List Str}, BI a r → WF a → WG a → WH a → a.steps ts = some b → BI b (ts.reverse ++ r) ∧ WF b ∧ WG b ∧ WH b
  | [], a, b, r, h, wf, wg, wh, e => by
    injection e with e
    subst e
    exact ⟨h, wf, wg, wh⟩
  | x :: ts, a, b, r, h, wf, wg, wh, e => by
    rw [Au.steps, Option.bind_eq_some_iff] at e
    obtain ⟨c, e1, e2⟩ := e
    have := BI.steps (h.step wf wg wh e1) (wf.step e1) (wg.step e1) (wh.step e1) e2
    rw [List.reverse_cons, List.append_assoc]
    exact this
/-- the keys above a key -/
theorem bef_keys {ts : List Str} {a : Au} (e : Au.start.steps ts = some a) (hp : a.ph = .key) (x : Str) : x ∈ bef ts.reverse 0 ↔ a.pl ++ [x] ∈ a.ms.map (·.1) := by
  obtain ⟨h, _⟩ := BI.steps BI.start start_wf start_wg WH.start e
  rw [List.append_nil] at h
  have := h.key 0 a.pl (by unfold tp; rw [hp]; show (if 0 ≤ a.pl.length then some (a.pl.take (a.pl.length - 0)) else none) = some a.pl; rw [if_pos (Nat.zero_le _), Nat.sub_zero, List.take_length]) x
  rw [this]
  unfold seen
  constructor
  · rintro (h1 | h1)
    · exact h1
    · rw [hp] at h1
      cases h1.1
  · exact .inl
end L2.G42

set_option Elab.async false
set_option linter.all false
set_option maxRecDepth 100000
set_option maxHeartbeats 4000000
/-! what is wanted at a token; where a spoilt text is refused -/
namespace L2.G42
open PySem PySem.Spec
def Ph.want : Ph → Str
  | .whole => "mode"
  | .open_ => "open"
  | .key => "key"
  | .colon => "colon"
  | .item => "item"
  | .after => "after"
  | .done => "after"
def wantAt (prev : Option Str) (t : Str) : Str := match prev with
  | none => "mode"
  | some p => if t = "{" then "open" else if t = ":" then "colon" else if p = "{" ∨ p = "," then "key" else if p = ":" then "item" else "after"
def wl (ts : List Str) (k : Nat) : Str := wantAt (if k = 0 then none else ts[k - 1]?) (ts[k]?.getD "")
theorem kind_not {x : Str} (h : x = "{" ∨ x = ":" ∨ x = ",") : modes.contains x = false ∧ kinds.contains x = false ∧ isKey x = false := by
  rcases h with rfl | rfl | rfl <;> decide +kernel
theorem ph_next {a b : Au} {t : Str} (e : a.step t = some b) : (t = "{" → a.ph = .open_) ∧ (t = ":" → a.ph = .colon) ∧ (a.ph = .open_ → t = "{") ∧ (a.ph = .colon → t = ":") := by
  unfold Au.step at e
  refine ⟨fun h => ?_, fun h => ?_, fun h => ?_, fun h => ?_⟩
  · obtain ⟨n1, n2, n3⟩ := kind_not (.inl h)
    cases ep : a.ph with
    | open_ => rfl
    | whole =>
      rw [ep] at e
      dsimp only at e
      rw [if_neg (fun q => by rw [n1] at q; cases q.1)] at e
      cases e
    | item => rw [ep] at e; simp only [n1, n2, Bool.false_ne_true, if_false, false_and] at e; cases e
    | key => rw [ep] at e; simp [n3] at e
    | colon => rw [ep, h] at e; simp at e; exact absurd e.1 (by decide)
    | after => rw [ep, h] at e; dsimp only at e; rw [if_neg (fun q => absurd q.1 (by decide)), if_neg (by decide)] at e; cases e
    | done => rw [ep] at e; cases e
  · obtain ⟨n1, n2, n3⟩ := kind_not (.inr (.inl h))
    cases ep : a.ph with
    | colon => rfl
    | whole =>
      rw [ep] at e
      dsimp only at e
      rw [if_neg (fun q => by rw [n1] at q; cases q.1)] at e
      cases e
    | item => rw [ep] at e; simp only [n1, n2, Bool.false_ne_true, if_false, false_and] at e; cases e
    | key => rw [ep] at e; simp [n3] at e
    | open_ => rw [ep, h] at e; dsimp only at e; rw [if_neg (by decide)] at e; cases e
    | after => rw [ep, h] at e; dsimp only at e; rw [if_neg (fun q => absurd q.1 (by decide)), if_neg (by decide)] at e; cases e
    | done => rw [ep] at e; cases e
  · rw [h] at e
    dsimp only at e
    split at e
    · assumption
    · cases e
  · rw [h] at e
    dsimp only at e
    split at e
    · assumption
    · cases e
theorem ph_from {a b : Au} {x : Str} (e : a.step x = some b) : (x = "{" ∨ x = "," → b.ph = .key) ∧ (x = ":" → b.ph = .item) ∧ (x ≠ "{" → x ≠ "," → x ≠ ":" → b.ph = .open_ ∨ b.ph = .colon ∨ b.ph = .after ∨ b.ph = .done) := by
  have e0 := e
  unfold Au.step at e
  cases ep : a.ph with
  | whole =>
    rw [ep] at e
    dsimp only at e
    split at e
    · rename_i hc
      injection e with e
      subst e
      refine ⟨fun h => ?_, fun h => ?_, fun _ _ _ => .inl rfl⟩
      · rcases h with h | h
        · rw [(kind_not (.inl h)).1] at hc; cases hc.1
        · rw [(kind_not (.inr (.inr h))).1] at hc; cases hc.1
      · rw [(kind_not (.inr (.inl h))).1] at hc; cases hc.1
    · cases e
  | item =>
    rw [ep] at e
    dsimp only at e
    split at e
    · rename_i hm
      split at e
      · injection e with e
        subst e
        refine ⟨fun h => ?_, fun h => ?_, fun _ _ _ => .inl rfl⟩
        · rcases h with h | h
          · rw [(kind_not (.inl h)).1] at hm; cases hm
          · rw [(kind_not (.inr (.inr h))).1] at hm; cases hm
        · rw [(kind_not (.inr (.inl h))).1] at hm; cases hm
      · cases e
    · split at e
      · rename_i hk
        injection e with e
        subst e
        refine ⟨fun h => ?_, fun h => ?_, fun _ _ _ => .inr (.inr (.inl rfl))⟩
        · rcases h with h | h
          · rw [(kind_not (.inl h)).2.1] at hk; cases hk.1
          · rw [(kind_not (.inr (.inr h))).2.1] at hk; cases hk.1
        · rw [(kind_not (.inr (.inl h))).2.1] at hk; cases hk.1
      · cases e
  | open_ =>
    rw [ep] at e
    dsimp only at e
    split at e
    · rename_i hx
      injection e with e
      subst e
      exact ⟨fun _ => rfl, fun h => by rw [hx] at h; exact absurd h (by decide), fun h => absurd hx h⟩
    · cases e
  | key =>
    rw [ep] at e
    dsimp only at e
    split at e
    · rename_i hx
      injection e with e
      subst e
      refine ⟨fun h => ?_, fun h => ?_, fun _ _ _ => .inr (.inl rfl)⟩
      · rcases h with h | h
        · rw [(kind_not (.inl h)).2.2] at hx; cases hx.1
        · rw [(kind_not (.inr (.inr h))).2.2] at hx; cases hx.1
      · rw [(kind_not (.inr (.inl h))).2.2] at hx; cases hx.1
    · cases e
  | colon =>
    rw [ep] at e
    dsimp only at e
    split at e
    · rename_i hx
      injection e with e
      subst e
      exact ⟨fun h => by rw [hx] at h; exact absurd h (by decide), fun _ => rfl, fun _ _ h => absurd hx h⟩
    · cases e
  | after =>
    rw [ep] at e
    dsimp only at e
    split at e
    · rename_i hx
      injection e with e
      subst e
      exact ⟨fun _ => rfl, fun h => by rw [hx.1] at h; exact absurd h (by decide), fun _ h => absurd hx.1 h⟩
    · split at e
      · rename_i hx
        injection e with e
        subst e
        refine ⟨fun h => by rw [hx] at h; exact absurd h (by decide), fun h => by rw [hx] at h; exact absurd h (by decide), fun _ _ _ => ?_⟩
        show (if a.way.dropLast = [] then Ph.done else .after) = _ ∨ (if a.way.dropLast = [] then Ph.done else .after) = _ ∨ (if a.way.dropLast = [] then Ph.done else .after) = _ ∨ (if a.way.dropLast = [] then Ph.done else .after) = _
        split
        · exact .inr (.inr (.inr rfl))
        · exact .inr (.inr (.inl rfl))
      · cases e
  | done => rw [ep] at e; cases e
theorem want_is {ts : List Str} {b : Au} (h : Au.start.steps ts = some b) {k : Nat} {x : Str} (hx : ts[k]? = some x) {c d : Au} (hc : Au.start.steps (ts.take k) = some c) (hd : c.step x = some d) : wl ts k = c.ph.want := by
  unfold wl
  rw [hx]
  cases k with
  | zero =>
    injection hc with hc
    subst hc
    rfl
  | succ k =>
    have hk : k < ts.length := by
      rcases Nat.lt_or_ge k ts.length with z | z
      · exact z
      · rw [List.getElem?_eq_none (by omega)] at hx; cases hx
    obtain ⟨c1, d1, g1, g2, g3⟩ := steps_at h k ts[k] (List.getElem?_eq_getElem hk)
    have ed : d1 = c := by
      rw [List.take_add_one, List.getElem?_eq_getElem hk, Au.steps_app g1] at hc
      have : (c1.step ts[k]).bind (fun b => b.steps []) = some c := hc
      rw [g2] at this
      injection this
    subst ed
    rw [if_neg (by omega), Nat.add_sub_cancel, List.getElem?_eq_getElem hk]
    show (if x = "{" then Str.ofString "open" else if x = ":" then Str.ofString "colon" else if ts[k] = "{" ∨ ts[k] = "," then Str.ofString "key" else if ts[k] = ":" then Str.ofString "item" else Str.ofString "after") = _
    obtain ⟨n1, n2, n3, n4⟩ := ph_next hd
    obtain ⟨f1, f2, f3⟩ := ph_from g2
    by_cases e1 : x = "{"
    · rw [if_pos e1, n1 e1]; rfl
    rw [if_neg e1]
    by_cases e2 : x = ":"
    · rw [if_pos e2, n2 e2]; rfl
    rw [if_neg e2]
    by_cases e3 : ts[k] = "{" ∨ ts[k] = ","
    · rw [if_pos e3, f1 e3]; rfl
    rw [if_neg e3]
    by_cases e4 : ts[k] = ":"
    · rw [if_pos e4, f2 e4]; rfl
    rw [if_neg e4]
    rcases f3 (fun q => e3 (.inl q)) (fun q => e3 (.inr q)) e4 with q | q | q | q
    · exact absurd (n3 q) e1
    · exact absurd (n4 q) e2
    · rw [q]; rfl
    · rw [q]; rfl
/-- refused whatever stands above -/
def noB (ph : Ph) (w : Str) : Bool := match ph with
  | .whole => !modes.contains w
  | .item => !modes.contains w && !kinds.contains w
  | .open_ => decide (w ≠ "{")
  | .key => !isKey w
  | .colon => decide (w ≠ ":")
  | .after => decide (w ≠ ",") && decide (w ≠ "}")
  | .done => true
theorem no_step {a : Au} {w : Str} (h : noB a.ph w = true) : a.step w = none := by
  unfold Au.step
  cases ep : a.ph with
  | whole =>
    rw [ep] at h
    have h : modes.contains w = false := by simpa [noB] using h
    exact if_neg (fun q => by rw [h] at q; cases q.1)
  | item =>
    rw [ep] at h
    obtain ⟨h1, h2⟩ := Bool.and_eq_true_iff.mp h
    have h1 : modes.contains w = false := by simpa using h1
    have h2 : kinds.contains w = false := by simpa using h2
    show (if modes.contains w = true then _ else if kinds.contains w = true ∧ a.nb < 6 then _ else _) = _
    rw [if_neg (by rw [h1]; exact Bool.false_ne_true), if_neg (fun q => by rw [h2] at q; cases q.1)]
  | open_ =>
    rw [ep] at h
    exact if_neg (of_decide_eq_true h)
  | key =>
    rw [ep] at h
    have h : isKey w = false := by simpa [noB] using h
    exact if_neg (fun q => by rw [h] at q; cases q.1)
  | colon =>
    rw [ep] at h
    exact if_neg (of_decide_eq_true h)
  | after =>
    rw [ep] at h
    obtain ⟨h1, h2⟩ := Bool.and_eq_true_iff.mp h
    show (if w = "," ∧ _ then _ else if w = "}" then _ else _) = _
    rw [if_neg (fun q => of_decide_eq_true h1 q.1), if_neg (of_decide_eq_true h2)]
  | done => rfl
theorem key_step {a : Au} {w : Str} (hp : a.ph = .key) (h : a.pl ++ [w] ∈ a.ms.map (·.1)) : a.step w = none := by
  unfold Au.step
  rw [hp]
  exact if_neg (fun q => q.2 h)
/-- where it is refused -/
theorem told_at {z : Str} {pre rest : List (Nat × List Nat)} {pos : Nat} {x : List Nat} {a : Au} (ht : toks 0 z.cps.toList = pre ++ (pos, x) :: rest) (hs : Au.start.steps (pre.map tw) = some a) (hn : a.step (tx x) = none) : rdWhole (rdStart z) = .error pos := by
  have hd : dueW Au.start ((toks 0 z.cps.toList).map tw) 0 = .inl pre.length := by
    rw [ht, List.map_append, dueW_steps hs, List.map_cons, dueW]
    show (match a.step (tx x) with | none => _ | some b => _) = _
    rw [hn, List.length_map]
    simp
  have rd := read_due z
  cases e : rdWhole (rdStart z) with
  | error p =>
    obtain ⟨j, h1, h2⟩ := rd.1 p e
    rw [hd] at h1
    injection h1 with h1
    subst h1
    rw [h2, ht]
    unfold startAt
    rw [List.getElem?_append_right (Nat.le_refl _), Nat.sub_self]
    rfl
  | ok s =>
    obtain ⟨ms, h1, _⟩ := rd.2 s e
    rw [hd] at h1
    cases h1
theorem told_end {z : Str} {pre : List (Nat × List Nat)} {a : Au} (ht : toks 0 z.cps.toList = pre) (hs : Au.start.steps (pre.map tw) = some a) (hn : a.ph ≠ .done) : rdWhole (rdStart z) = .error z.length := by
  have hd : dueW Au.start ((toks 0 z.cps.toList).map tw) 0 = .inl pre.length := by
    have := dueW_steps (r2 := []) (k := 0) hs
    rw [List.append_nil] at this
    rw [ht, this, dueW, if_neg hn, List.length_map]
    simp
  have rd := read_due z
  cases e : rdWhole (rdStart z) with
  | error p =>
    obtain ⟨j, h1, h2⟩ := rd.1 p e
    rw [hd] at h1
    injection h1 with h1
    subst h1
    rw [h2, ht]
    unfold startAt
    rw [List.getElem?_eq_none (Nat.le_refl _)]
    rfl
  | ok s =>
    obtain ⟨ms, h1, _⟩ := rd.2 s e
    rw [hd] at h1
    cases h1
/-- the tokens of a text that begins loosely -/
theorem toks_pre : ∀ (ps : List (Nat × List Nat)) (n : Nat) (u : List Nat), Apart2 ps → (∀ s t, ps.getLast? = some (s, t) → Word t → ∀ c r, u = c :: r → letter c = false) → toks n (loose ps 0 ++ u) = placed n ps ++ toks (n + (loose ps 0).length) u
  | [], n, u, _, _ => by simp [loose, placed]
  | [(s, t)], n, u, h, hu => by
    have hl : loose [(s, t)] 0 = List.replicate s 32 ++ t := by simp [loose]
    rw [hl, List.append_assoc, toks_sp]
    have hn : n + (List.replicate s 32 ++ t).length = n + s + t.length := by simp; omega
    rw [hn]
    rcases h with h | ⟨c, rfl, h1, h2⟩
    · rw [toks_word h (hu s t rfl h)]
      rfl
    · rw [List.singleton_append, toks_sign h1 h2]
      rfl
  | (s, t) :: (s2, v) :: r, n, u, h, hu => by
    obtain ⟨ht, hs, hr⟩ := h
    have hl : loose ((s, t) :: (s2, v) :: r) 0 = List.replicate s 32 ++ (t ++ loose ((s2, v) :: r) 0) := rfl
    rw [hl, List.append_assoc, List.append_assoc, toks_sp]
    have ih := toks_pre ((s2, v) :: r) (n + s + t.length) u hr (fun s' t' e => hu s' t' (by rw [List.getLast?_cons_cons]; exact e))
    have hn : n + (List.replicate s 32 ++ (t ++ loose ((s2, v) :: r) 0)).length = n + s + t.length + (loose ((s2, v) :: r) 0).length := by simp; omega
    rw [hn]
    rcases ht with h | ⟨c, rfl, h1, h2⟩
    · rw [toks_word h (fun c r' q => ?_), ih]
      · rfl
      · have q' : List.replicate s2 32 ++ ((v ++ loose r 0) ++ u) = c :: r' := by
          rw [← q]
          show _ = (List.replicate s2 32 ++ (v ++ loose r 0)) ++ u
          simp
        by_cases h0 : s2 = 0
        · subst h0
          rcases hs h with h3 | ⟨c', rfl, h4, h5⟩
          · exact absurd rfl h3
          · have q2 : c' :: (loose r 0 ++ u) = c :: r' := q'
            injection q2 with q2
            rw [← q2]
            exact h4
        · rw [rep_head q' h0]
          decide
    · rw [List.singleton_append, toks_sign h1 h2]
      exact congrArg _ ih
/-- a loose text parted at a token -/
theorem loose_at : ∀ {ps : List (Nat × List Nat)} {k s : Nat} {t : List Nat} (e : Nat), ps[k]? = some (s, t) → loose ps e = loose (ps.take k) 0 ++ (List.replicate s 32 ++ (t ++ loose (ps.drop (k + 1)) e))
  | [], k, s, t, e, h => by simp at h
  | (s', t') :: ps, 0, s, t, e, h => by
    injection h with h
    injection h with h1 h2
    subst h1 h2
    simp [loose]
  | (s', t') :: ps, k + 1, s, t, e, h => by
    have := loose_at (ps := ps) e h
    show List.replicate s' 32 ++ (t' ++ loose ps e) = (List.replicate s' 32 ++ (t' ++ loose (ps.take k) 0)) ++ _
    rw [this]
    simp
theorem placed_at : ∀ {ps : List (Nat × List Nat)} {k s n : Nat} {t : List Nat}, ps[k]? = some (s, t) → (placed n ps)[k]? = some (n + (loose (ps.take k) 0).length + s, t)
  | [], k, s, n, t, h => by simp at h
  | (s', t') :: ps, 0, s, n, t, h => by
    injection h with h
    injection h with h1 h2
    subst h1 h2
    simp [placed, loose]
  | (s', t') :: ps, k + 1, s, n, t, h => by
    have := placed_at (ps := ps) (n := n + s' + t'.length) h
    show (placed (n + s' + t'.length) ps)[k]? = some (n + (List.replicate s' 32 ++ (t' ++ loose (ps.take k) 0)).length + s, t)
    rw [this]
    simp
    omega
theorem Apart2.take : ∀ {ps : List (Nat × List Nat)}, Apart2 ps → ∀ k, Apart2 (ps.take k)
  | [], _, k => by rw [List.take_nil]; trivial
  | _ :: _, _, 0 => trivial
  | [(s, t)], h, k + 1 => by simpa using h
  | (s, t) :: (s2, u) :: r, h, 1 => h.1
  | (s, t) :: (s2, u) :: r, h, k + 2 => ⟨h.1, h.2.1, Apart2.take (ps := (s2, u) :: r) h.2.2 (k + 1)⟩
/-- behind a word stand spaces or a sign -/
theorem Apart2.next : ∀ {ps : List (Nat × List Nat)}, Apart2 ps → ∀ {k s : Nat} {t : List Nat}, ps[k]? = some (s, t) → ∀ s' t', (ps.take k).getLast? = some (s', t') → Word t' → s ≠ 0 ∨ Sign t
  | [], _, k, s, t, h, _, _, _, _ => by simp at h
  | _ :: _, _, 0, s, t, h, _, _, hl, _ => by simp at hl
  | [(s1, t1)], _, k + 1, s, t, h, _, _, _, _ => by simp at h
  | (s1, t1) :: (s2, u) :: r, hp, 1, s, t, h, s', t', hl, hw => by
    injection h with h
    injection h with h1 h2
    subst h1 h2
    have : (s1, t1) = (s', t') := by
      have hl : [(s1, t1)].getLast? = some (s', t') := hl
      simpa using hl
    injection this with _ e2
    subst e2
    exact hp.2.1 hw
  | (s1, t1) :: (s2, u) :: r, hp, k + 2, s, t, h, s', t', hl, hw =>
    Apart2.next (ps := (s2, u) :: r) hp.2.2 (k := k + 1) h s' t' (by
      have hl : ((s1, t1) :: (s2, u) :: r.take k).getLast? = some (s', t') := hl
      rw [List.getLast?_cons_cons] at hl
      exact hl) hw
end L2.G42

set_option Elab.async false
set_option linter.all false
set_option maxRecDepth 100000
set_option maxHeartbeats 4000000
/-! spoilt texts -/
namespace L2.G42
open PySem PySem.Spec
theorem cut_suf (l : List Nat) (k : Nat) : cutS (tx l) (some (k : Int)) none = tx (l.drop k) := by
  have el : (tx l).length = l.length := tx_len l
  unfold cutS HT.sIx
  simp only [show ¬ ((k : Int) < 0) by omega, if_false, Int.toNat_natCast]
  rw [el]
  apply str_ext
  rw [tx_cps]
  show (((tx l).cps.toList.drop (min k l.length)).take (l.length - min k l.length)).toArray.toList = _
  rw [tx_cps]
  rcases Nat.le_total k l.length with h | h
  · rw [Nat.min_eq_left h]
    simp [List.take_of_length_le]
  · rw [Nat.min_eq_right h]
    simp [List.drop_eq_nil_of_le h]
/-- a right text -/
structure Gd3 (ts : List Str) (ps : List (Nat × List Nat)) (e : Nat) : Prop where
  tk : ps.map (fun x => tx x.2) = ts
  ap : Apart2 ps
  st : ∃ b, Au.start.steps ts = some b ∧ b.ph = .done
  len : (loose ps e).length ≤ 80000
  hd : ∃ m r, ts = m :: r ∧ modes.contains m = true
  few : ts.length ≤ 100
  short : ∀ t ∈ ts, t.length ≤ 9
  wd : ∀ t ∈ ts, Word t.cps.toList ∨ t ∈ (["{", "}", ":", ",", "*", "!"] : List Str)
namespace Gd3
variable {ts : List Str} {ps : List (Nat × List Nat)} {e : Nat}
theorem plen (G : Gd3 ts ps e) : ps.length = ts.length := by rw [← G.tk, List.length_map]
theorem pre (G : Gd3 ts ps e) (k : Nat) : (placed 0 (ps.take k)).map tw = ts.take k := by
  rw [placed_tw, ← G.tk, List.map_take]
theorem at_ (G : Gd3 ts ps e) {k s : Nat} {t : List Nat} (h : ps[k]? = some (s, t)) : ts[k]? = some (tx t) := by
  rw [← G.tk, List.getElem?_map, h]
  rfl
/-- refused at a token -/
theorem refuse (G : Gd3 ts ps e) {k : Nat} {c : Au} (hc : Au.start.steps (ts.take k) = some c) {s : Nat} {x rest : List Nat} (hx : Tk x) (hr : Word x → ∀ c r, rest = c :: r → letter c = false)
    (hp : ∀ s' t', (ps.take k).getLast? = some (s', t') → Word t' → s ≠ 0 ∨ ∀ c r, x ++ rest = c :: r → letter c = false) (hn : c.step (tx x) = none) :
    rdWhole (rdStart (tx (loose (ps.take k) 0 ++ (List.replicate s 32 ++ (x ++ rest))))) = .error ((loose (ps.take k) 0).length + s) := by
  have ht : ∃ rest', toks ((loose (ps.take k) 0).length + s) (x ++ rest) = ((loose (ps.take k) 0).length + s, x) :: rest' := by
    rcases hx with h | ⟨g, rfl, h1, h2⟩
    · exact ⟨_, toks_word h (hr h)⟩
    · exact ⟨_, by rw [List.singleton_append, toks_sign h1 h2]⟩
  obtain ⟨rest', ht⟩ := ht
  refine told_at (pre := placed 0 (ps.take k)) (x := x) (rest := rest') ?_ (by rw [G.pre]; exact hc) hn
  rw [tx_cps, toks_pre (ps.take k) 0 _ (G.ap.take k) (fun s' t' h1 h2 c' r h3 => ?_), Nat.zero_add, toks_sp, ht]
  rcases hp s' t' h1 h2 with h | h
  · rw [rep_head h3 h]
    decide
  · by_cases h0 : s = 0
    · subst h0
      exact h c' r h3
    · rw [rep_head h3 h0]
      decide
/-- refused at a sign behind a word that is allowed -/
theorem refuse2 (G : Gd3 ts ps e) {k : Nat} {c d : Au} (hc : Au.start.steps (ts.take k) = some c) {s g : Nat} {x rest : List Nat} (hx : Word x) (hg : letter g = false) (hg2 : g ≠ 32)
    (hp : ∀ s' t', (ps.take k).getLast? = some (s', t') → Word t' → s ≠ 0) (hd : c.step (tx x) = some d) (hn : d.step (tx [g]) = none) :
    rdWhole (rdStart (tx (loose (ps.take k) 0 ++ (List.replicate s 32 ++ (x ++ g :: rest))))) = .error ((loose (ps.take k) 0).length + s + x.length) := by
  refine told_at (pre := placed 0 (ps.take k) ++ [((loose (ps.take k) 0).length + s, x)]) (x := [g]) (rest := toks ((loose (ps.take k) 0).length + s + x.length + 1) rest) ?_ (a := d) ?_ hn
  · rw [tx_cps, toks_pre (ps.take k) 0 _ (G.ap.take k) (fun s' t' h1 h2 c' r h3 => ?_), Nat.zero_add, toks_sp, toks_word hx (fun c' r h => by injection h with h; rw [← h]; exact hg), toks_sign hg hg2, List.append_assoc]
    · rfl
    · rw [rep_head h3 (hp s' t' h1 h2)]
      decide
  · rw [List.map_append, G.pre, Au.steps_app hc]
    exact Au.steps_one hd
/-- cut off -/
theorem cutoff (G : Gd3 ts ps e) {k : Nat} {c : Au} (hc : Au.start.steps (ts.take k) = some c) (s : Nat) (hn : c.ph ≠ .done) : rdWhole (rdStart (tx (loose (ps.take k) 0 ++ List.replicate s 32))) = .error ((loose (ps.take k) 0).length + s) := by
  have := told_end (z := tx (loose (ps.take k) 0 ++ List.replicate s 32)) (pre := placed 0 (ps.take k)) (a := c) ?_ (by rw [G.pre]; exact hc) hn
  · rw [this, tx_len, List.length_append, List.length_replicate]
  · rw [tx_cps, ← loose_end, toks_loose _ _ _ (G.ap.take k)]
/-- the state ahead of a token -/
theorem state (G : Gd3 ts ps e) {k s : Nat} {t : List Nat} (h : ps[k]? = some (s, t)) : ∃ c d, Au.start.steps (ts.take k) = some c ∧ c.step (tx t) = some d ∧ wl ts k = c.ph.want := by
  obtain ⟨b, hb, _⟩ := G.st
  obtain ⟨c, d, h1, h2, _⟩ := steps_at hb k _ (G.at_ h)
  exact ⟨c, d, h1, h2, want_is hb (G.at_ h) h1 h2⟩
theorem before (G : Gd3 ts ps e) {k s : Nat} {t : List Nat} (h : ps[k]? = some (s, t)) (hw : Word t) : ∀ s' t', (ps.take k).getLast? = some (s', t') → Word t' → s ≠ 0 := fun s' t' h1 h2 => by
  rcases G.ap.next h s' t' h1 h2 with q | ⟨g, rfl, q1, _⟩
  · exact q
  · have := hw.2 g List.mem_cons_self
    rw [q1] at this
    cases this
/-- what stands behind a word -/
theorem behind (G : Gd3 ts ps e) {k s : Nat} {t : List Nat} (h : ps[k]? = some (s, t)) (hw : Word t) : ∀ c r, loose (ps.drop (k + 1)) e = c :: r → letter c = false := fun c r hl => by
  cases hd : ps.drop (k + 1) with
  | nil =>
    rw [hd] at hl
    have hl : List.replicate e 32 = c :: r := hl
    have := rep_head (k := e) (l := []) (by rw [List.append_nil]; exact hl) (fun q => by rw [q] at hl; cases hl)
    rw [this]
    decide
  | cons p r2 =>
    obtain ⟨s2, t2⟩ := p
    rw [hd] at hl
    have hl : List.replicate s2 32 ++ (t2 ++ loose r2 e) = c :: r := hl
    have h2 : ps[k + 1]? = some (s2, t2) := by
      have := congrArg List.head? hd
      rw [List.head?_drop] at this
      exact this
    have h3 : (ps.take (k + 1)).getLast? = some (s, t) := by
      rw [List.take_add_one, h]
      simp
    by_cases h0 : s2 = 0
    · rcases G.ap.next h2 s t h3 hw with q | ⟨g, rfl, q1, _⟩
      · exact absurd h0 q
      · subst h0
        have hl : g :: loose r2 e = c :: r := hl
        injection hl with hl
        rw [← hl]
        exact q1
    · rw [rep_head hl h0]
      decide
/-- the text parted at a token -/
theorem part (G : Gd3 ts ps e) {k s : Nat} {t : List Nat} (h : ps[k]? = some (s, t)) (m : Nat) (hm : m ≤ t.length) : (loose ps e).take ((loose (ps.take k) 0).length + s + m) = loose (ps.take k) 0 ++ (List.replicate s 32 ++ t.take m) ∧ (loose ps e).drop ((loose (ps.take k) 0).length + s + m) = t.drop m ++ loose (ps.drop (k + 1)) e := by
  have hl := loose_at e h
  have e1 : loose ps e = (loose (ps.take k) 0 ++ (List.replicate s 32 ++ t.take m)) ++ (t.drop m ++ loose (ps.drop (k + 1)) e) := by
    rw [hl]
    simp only [List.append_assoc]
    congr 2
    rw [← List.append_assoc, List.take_append_drop]
  have e2 : (loose (ps.take k) 0 ++ (List.replicate s 32 ++ t.take m)).length = (loose (ps.take k) 0).length + s + m := by
    simp
    omega
  rw [e1, ← e2]
  exact ⟨List.take_left, List.drop_left⟩
end Gd3
end L2.G42

set_option Elab.async false
set_option linter.all false
set_option maxRecDepth 100000
set_option maxHeartbeats 4000000
namespace K03
open PySem L2 L2.G42
open Evl (pss_cut)
open PyProof.Rows (boot_isinstance boot_int boot_bool boot_list boot_set boot_abs boot_enumerate)
def top (i : Nat) : Stmt := PySem.Challenge.pw_nestedwrites_k03_texts_refused.main.body.getD i (.Pass ⟨0, 0, 0, 0⟩)
abbrev sSource : Stmt := top 18
abbrev sTake : Stmt := top 19
section
variable {P : Program} {w : World} {K : PySem.W.Frag} {mg : Str → Option Value} {base : Heap}
theorem scTake : FnScope ["_law_source_here", "_law_many", "_law_digit"] ["_law_source_here", "_law_many"] (defScope sTake) := ⟨rfl, rfl, rfl, by decide +kernel, rfl, by decide +kernel, by decide +kernel⟩
theorem ok_take {f : Addr} {fd : FuncData} (F : Fun K "_law_take" "_law_take" sTake f fd) (T : Bn mg) : FnOk P w K mg base CX0 1 f fd ["_law_source_here", "_law_many"] spTake := by
  refine F.ok scTake (fun vs H Q E h => ?_) (fun cdv A outer s H vs Q E hr h => ?_)
  · obtain ⟨a, many, rfl, _⟩ := h
    rfl
  · obtain ⟨a, many, rfl, h0, h9, ⟨c, st, n, hs⟩, k⟩ := h
    refine ⟨_, (pss_cons (ps_if (pt_cmpR op_gt (pe_ix ix_list (pv 0) pe_int (fun _ _ => rfl)) pe_int (nomark _))
      (pss_cons (ps_set (i := 2) scTake.nd rfl (.inl rfl) (pe_op op_mod (pe_callTy call_int1 (by rfl) T.int boot_int (pa_cons (pe_ix ix_list (pv 0) pe_int (fun _ _ => rfl)) pa_nil)) (pv 1)))
        (pss_cons (ps_asg (pe_op op_fdivW (pe_ix ix_list (pv 0) pe_int (fun _ _ => rfl)) (pv 1)) (pg_sub (pv 0) pe_int set_list))
        (pss_one (ps_ret (pv 2)))))
      pss_nil)
      (pss_cons (ps_asg (pe_op op_add (pe_ix ix_list (pv 0) pe_int (fun _ _ => rfl)) pe_int) (pg_sub (pv 0) pe_int set_list))
      (pss_cons (ps_asg (pe_op op_mod (pe_callTy call_int1 (by rfl) T.int boot_int (pa_cons (pe_op op_add (pe_op op_mul (pe_ix ix_list (pv 0) pe_int (fun _ _ => rfl)) pe_int) (pe_op op_mul pe_int (pe_ix ix_list (pv 0) pe_int (fun _ _ => rfl)))) pa_nil)) pe_int) (pg_sub (pv 0) pe_int set_list))
      (pss_one (ps_ret (pe_op op_mod (pe_callTy call_int1 (by rfl) T.int boot_int (pa_cons (pe_op op_fdivW (pe_ix ix_list (pv 0) pe_int (fun _ _ => rfl)) pe_int) pa_nil)) (pv 1))))))), ?_⟩
    refine ⟨_, rfl, a, _, _, _, rfl, rfl, src0 hs, rfl, _, _, rfl, rfl, _, rfl, ?_⟩
    refine ite2 (fun h => ?_) (fun h => ?_)
    · refine ⟨_, rfl, a, _, _, _, rfl, rfl, src0 hs, rfl, .inl ⟨_, rfl, _, rfl, _, _, rfl, rfl, h0, ?_⟩⟩
      refine ⟨_, rfl, a, _, _, _, rfl, rfl, src0 hs, rfl, _, rfl, _, _, rfl, rfl, ⟨h0, h9⟩, _, rfl, a, _, _, 0, rfl, rfl, hs, rfl, _, rfl, ?_⟩
      exact k _ _ _ _ (Int.emod_nonneg _ (by omega)) (Int.emod_lt_of_pos _ h0)
    · refine ⟨_, rfl, a, _, _, _, rfl, rfl, src0 hs, rfl, _, _, rfl, rfl, _, rfl, a, _, _, 2, rfl, rfl, hs, rfl, ?_⟩
      have h1 : (upd H a (src c st (n + 1))) a = some (src c st (n + 1)) := upd_same
      refine ⟨_, rfl, a, _, _, _, rfl, rfl, src0 h1, rfl, _, _, rfl, rfl, .inr ⟨by decide, by decide⟩, _, rfl, a, _, _, _, rfl, rfl, src0 h1, rfl, _, _, rfl, rfl, .inl ⟨by decide, by decide⟩, _, _, rfl, rfl, .inl ⟨_, rfl, _, _, rfl, rfl, (by decide : (0 : Int) < 2147483647), _, rfl, a, _, _, 1, rfl, rfl, h1, rfl, ?_⟩⟩
      rw [upd_twice]
      refine ⟨_, rfl, a, _, _, _, rfl, rfl, src0 upd_same, rfl, _, _, rfl, rfl, ⟨by decide, by decide⟩, .inl ⟨_, rfl, _, rfl, _, _, rfl, rfl, h0, ?_⟩⟩
      exact k _ _ _ _ (Int.emod_nonneg _ (by omega)) (Int.emod_lt_of_pos _ h0)
theorem scSource : FnScope ["_law_script", "_law_at", "_law_cell", "_law_state", "_law_k", "_law_each"] ["_law_script", "_law_at"] (defScope sSource) := ⟨rfl, rfl, rfl, by decide +kernel, rfl, by decide +kernel, by decide +kernel⟩
theorem ok_source {f : Addr} {fd : FuncData} (F : Fun K "_law_source" "_law_source" sSource f fd) (T : Bn mg) : FnOk P w K mg base CX0 1 f fd ["_law_script", "_law_at"] (spSource K) := by
  refine F.ok scSource (fun vs H Q E h => ?_) (fun cdv A outer s H vs Q E hr h => ?_)
  · obtain ⟨a, ns, i, rfl, _⟩ := h
    rfl
  · obtain ⟨a, ns, z, rfl, hz, ha, k⟩ := h
    obtain ⟨i, rfl⟩ := Int.eq_ofNat_of_zero_le hz
    refine ⟨_, (pss_cut (ps_set (i := 2) scSource.nd rfl (.inl rfl) (pe_ifExp (pt_cmpR op_lt (pv 1) (pe_callB call_len_seq (by rfl) T.len PySem.boot_len (pa_cons (pv 0) pa_nil)) (nomark _)) (pe_callB call_abs (by rfl) T.abs boot_abs (pa_cons (pe_ix ix_list (pv 0) (pv 1) (fun _ _ => rfl)) pa_nil)) pe_int))
      (pss_cons (ps_set (i := 3) scSource.nd rfl (.inl rfl) (pe_op op_add pe_int (pe_op op_mul pe_int (pv 1))))
      (pss_cons (ps_for PassesOwn.never rfl (pi_enum (by rfl) T.enumerate (pa_cons (pe_slice sl_list (pv 0) po_none (po_some pe_int)) pa_nil)) (pg_tup rfl (pgs_cons (pg_name (i := 4) scSource.nd rfl (.inl rfl)) (pgs_cons (pg_name (i := 5) scSource.nd rfl (.inl rfl)) pgs_nil)))
      (pss_one (ps_set (i := 3) scSource.nd rfl (.inl rfl) (pe_op op_mod (pe_callTy call_int1 (by rfl) T.int boot_int (pa_cons (pe_op op_add (pe_op op_add (pe_op op_mul (pv 3) pe_int) (pe_op op_mod (pe_callTy call_int1 (by rfl) T.int boot_int (pa_cons (pv 5) pa_nil)) pe_int)) (pe_op op_mul pe_int (pv 4))) pa_nil)) pe_int))))
      (pss_one (ps_ret (pe_lst (pa_cons (pe_ifExp (pt_cmpR op_ge (pv 2) (pe_op op_pow pe_int pe_int) (nomark _)) (pv 2) pe_int) (pa_cons (pv 3) (pa_cons pe_int pa_nil))))))))), ?_⟩
    refine ⟨fun σ H1 => H1 = H ∧ ∃ cell : Int, σ = [some (.ref a), some (.int i), some (.int cell), none, none, none], ?_, ?_⟩
    · refine ⟨_, rfl, _, rfl, a, _, rfl, .inl ha, _, _, rfl, rfl, _, rfl, ite2 (fun h => ?_) (fun h => ?_)⟩
      · have h' : (i : Int) < ((ns.map V.int).length : Int) := by simpa using h
        have hi : i < ns.length := by
          rw [List.length_map] at h'
          omega
        have hg : (ns.map V.int)[i]? = some (V.int ns[i]) := by rw [List.getElem?_map, List.getElem?_eq_getElem hi]; rfl
        exact ⟨_, rfl, _, rfl, a, _, _, _, rfl, rfl, ha, atI_nat hg, _, rfl, rfl, _, rfl⟩
      · exact ⟨rfl, 0, rfl⟩
    · rintro σ H1 ⟨rfl, cell, rfl⟩
      refine ⟨_, rfl, _, _, rfl, rfl, .inl ⟨by decide, by decide⟩, _, _, rfl, rfl, ?_⟩
      refine ⟨_, rfl, _, rfl, a, _, rfl, ha, fun q hq => ?_⟩
      refine ⟨q, _, rfl, SqL.of upd_same, for_it (walk_enum (xs := cutV (ns.map V.int) none (some 63))) (fun _ σ H2 => (∃ (st : Int) (x y : Option V), σ = [some (.ref a), some (.int i), some (.int cell), some (.int st), x, y]) ∧ H2 q = some (.lst (cutV (ns.map V.int) none (some 63))) ∧ But (fun _ => False) H1 H2)
        ⟨⟨_, _, _, rfl⟩, upd_same, But.new hq⟩ (fun _ _ _ _ h => SqL.of h.2.1) ?_ ?_⟩
      · rintro j x σ H2 H3 hj ⟨⟨st, y, z, rfl⟩, h2, g2⟩ ⟨t, u, v, rfl, ht, rfl, hu, hv⟩
        injection hu with hu
        subst hu
        have hm : v ∈ ns.map V.int := cut_mem (List.mem_of_getElem? hv)
        obtain ⟨m, _, rfl⟩ := List.mem_map.mp hm
        have ntq : t ≠ q := (ne_of_none h2 ht).symm
        refine ⟨t, _, rfl, .inl (.inl upd_same), rfl, _, _, rfl, _, _, rfl, rfl, ?_⟩
        refine ⟨_, rfl, _, _, rfl, rfl, .inr ⟨by decide, by decide⟩, _, rfl, .inl ⟨_, rfl, _, _, rfl, rfl, (by decide : (0 : Int) < 998244353), _, _, rfl, rfl, _, rfl, _, _, rfl, rfl, .inl ⟨by decide, by decide⟩, _, _, rfl, rfl, .inl ⟨_, rfl, _, _, rfl, rfl, (by decide : (0 : Int) < 2147483647), ?_⟩⟩⟩
        exact ⟨⟨_, _, _, rfl⟩, by rw [upd_ne ntq.symm]; exact h2, g2.trans (But.new ht)⟩
      · rintro σ H2 ⟨⟨st, y, z, rfl⟩, h2, g2⟩
        refine ⟨_, rfl, _, _, rfl, rfl, ⟨by decide, by decide, by decide⟩, _, _, rfl, rfl, _, rfl, ite2 (fun h => ?_) (fun h => ?_)⟩
        · exact ⟨_, rfl, _, rfl, szle (by simp), fun p hp => k p _ (g2.free hp) ⟨_, _, _, upd_same⟩ (g2.trans (But.new hp))⟩
        · exact ⟨_, rfl, szle (by simp), fun p hp => k p _ (g2.free hp) ⟨_, _, _, upd_same⟩ (g2.trans (But.new hp))⟩
end
end K03

set_option Elab.async false
set_option linter.all false
set_option maxRecDepth 100000
set_option maxHeartbeats 4000000
set_option pp.maxSteps 300
namespace K03
open PySem L2 L2.G42
open Evl (pss_cut)
open PyProof.Rows (boot_isinstance boot_int boot_bool boot_list boot_set boot_abs boot_enumerate boot_tuple)
abbrev sToks : Stmt := top 12
section
variable {P : Program} {w : World} {K : PySem.W.Frag} {mg : Str → Option Value} {base : Heap}
theorem scToks : FnScope ["text", "found", "at", "end"] ["text"] (defScope sToks) := ⟨rfl, rfl, rfl, by decide +kernel, rfl, by decide +kernel, by decide +kernel⟩
theorem ok_toks {f : Addr} {fd : FuncData} (F : Fun K "tokens_of" "tokens_of" sToks f fd) (T : Bn mg) (gl : ∃ t, mg "LETTERS" = some (.str lettersS t)) : FnOk P w K mg base CX0 1 f fd ["text"] spToks := by
  refine F.ok scToks (fun vs H Q E h => ?_) (fun cdv A outer s H vs Q E hr h => ?_)
  · obtain ⟨z, rfl, _⟩ := h
    rfl
  · obtain ⟨z, rfl, hz, k⟩ := h
    obtain ⟨tl, gl⟩ := gl
    have hz' : z.length ≤ sizeLine := Nat.le_trans hz (by decide)
    have hzl : z.length = z.cps.toList.length := by
      show z.cps.size = _
      simp
    refine ⟨_, (pss_cons (ps_set (i := 1) scToks.nd rfl (.inl rfl) (pe_lst pa_nil))
      (pss_cons (ps_set (i := 2) scToks.nd rfl (.inl rfl) pe_int)
      (pss_cons (ps_while PassesOwn.never (pt_cmpR op_lt (pv 2) (pe_callB call_len_str (by rfl) T.len PySem.boot_len (pa_cons (pv 0) pa_nil)) (nomark _))
      (pss_cons (ps_set (i := 3) scToks.nd rfl (.inl rfl) (pe_op op_add (pv 2) pe_int))
        (pss_cut (ps_if (pt_cmpR op_in_sign (pe_ix ix_str (pv 0) (pv 2) (fun _ _ => rfl)) (pe_glob (v := .str lettersS) rfl gl ⟨_, rfl⟩) rfl)
        (pss_one (ps_while PassesOwn.never (PW.pt (pw_and (pt_cmpR op_lt (pv 3) (pe_callB call_len_str (by rfl) T.len PySem.boot_len (pa_cons (pv 0) pa_nil)) (nomark _)) (pw_and1 (pt_cmpR op_in_sign (pe_ix ix_str (pv 0) (pv 3) (fun _ _ => rfl)) (pe_glob (v := .str lettersS) rfl gl ⟨_, rfl⟩) rfl))))
          (pss_one (ps_aug (i := 3) scToks.nd rfl (.inl rfl) pe_int ip_add))))
        pss_nil)
        (pss_cut (ps_if (pt_cmpR op_ne (pe_ix ix_str (pv 0) (pv 2) (fun _ _ => rfl)) pe_str (nomark _))
        (pss_one (ps_expr (pe_bm PySem.F.plainAttrs_list PySem.F.slot_list_append PySem.F.type_list_append mt_append (pv 1) (pa_cons (pe_tup (pa_cons (pv 2) (pa_cons (pe_slice sl_str (pv 0) (po_some (pv 2)) (po_some (pv 3))) pa_nil))) pa_nil))))
        pss_nil)
        (pss_one (ps_set (i := 2) scToks.nd rfl (.inl rfl) (pv 3)))))))
      (pss_one (ps_ret (pv 1)))))), ?_⟩
    refine ⟨szle (by simp), fun L hL => ?_⟩
    -- what is found so far
    refine ⟨fun m σ H1 => ∃ (n : Nat) (done : List (Nat × List Nat)) (x : Option V), m = z.length - n ∧ n ≤ z.length ∧ σ = [some (.str z), some (.ref L), some (.int n), x] ∧ TokAt H1 L done ∧ done.length ≤ n ∧ done ++ toks n (z.cps.toList.drop n) = toks 0 z.cps.toList ∧ But (fun _ => False) H H1,
      ⟨_, 0, [], none, rfl, Nat.zero_le _, rfl, ⟨[], upd_same, rfl, by simp⟩, Nat.le_refl _, rfl, But.new hL⟩, ?_⟩
    rintro m σ H1 ⟨n, done, x, rfl, hn, rfl, tk, dl, sum, g⟩
    refine ⟨_, rfl, _, rfl, z, rfl, hz', _, _, rfl, rfl, _, rfl, ite2 (fun h => ?_) (fun h => ?_)⟩
    · have hlt : n < z.length := by
        have := of_decide_eq_true h
        omega
      have hn' : n < z.cps.toList.length := by rw [← hzl]; exact hlt
      have hc : z.cps.toList[n]? = some z.cps.toList[n] := List.getElem?_eq_getElem hn'
      generalize hcc : z.cps.toList[n] = c at hc
      have hdrop : z.cps.toList.drop n = c :: z.cps.toList.drop (n + 1) := by
        rw [← hcc]
        exact List.drop_eq_getElem_cons hn'
      refine ⟨_, fun _ _ h => h, ?_⟩
      refine ⟨_, rfl, _, _, rfl, rfl, ?_⟩
      have atc : atI z.cps.toList (n : Int) = some c := atI_nat hc
      refine ⟨fun σ H2 => H2 = H1 ∧ ∃ e : Nat, n < e ∧ e ≤ z.length ∧ σ = [some (.str z), some (.ref L), some (.int n), some (.int e)] ∧ toks n (z.cps.toList.drop n) = (if c = 32 then [] else [(n, (z.cps.toList.drop n).take (e - n))]) ++ toks e (z.cps.toList.drop e), ?_, ?_⟩
      · refine ⟨_, rfl, _, rfl, z, _, c, rfl, rfl, hz', atc, c, _, rfl, rfl, _, rfl, ?_⟩
        rw [letters_mem]
        have e1 : (n : Int) + 1 = ((n + 1 : Nat) : Int) := by omega
        cases hl : letter c with
        | true =>
          refine iteT ?_
          have c32 : ¬ c = 32 := by
            intro e
            subst e
            revert hl
            decide
          refine ⟨fun m σ H2 => H2 = H1 ∧ ∃ e : Nat, m = z.length - e ∧ n < e ∧ e ≤ z.length ∧ σ = [some (.str z), some (.ref L), some (.int n), some (.int e)] ∧ ∀ i, i < e - (n + 1) → ∃ c', (z.cps.toList.drop (n + 1))[i]? = some c' ∧ letter c' = true,
            ⟨_, rfl, n + 1, rfl, by omega, by omega, by rw [← e1]; rfl, fun i hi => by omega⟩, ?_⟩
          rintro m' σ' H2 ⟨rfl, e, rfl, he1, he2, rfl, hall⟩
          have fin : (∀ c', (z.cps.toList.drop (n + 1))[e - (n + 1)]? = some c' → letter c' = false) → toks n (z.cps.toList.drop n) = (if c = 32 then [] else [(n, (z.cps.toList.drop n).take (e - n))]) ++ toks e (z.cps.toList.drop e) := fun hstop => by
            obtain ⟨a1, a2⟩ := tw_at (e - (n + 1)) hall hstop
            have lt : (z.cps.toList.drop (n + 1)).length = z.cps.toList.length - (n + 1) := List.length_drop
            rw [if_neg c32, hdrop, toks, if_pos hl, a1, a2, List.length_take, lt, List.drop_drop, List.take_cons (by omega)]
            have e2 : n + 1 + min (e - (n + 1)) (z.cps.toList.length - (n + 1)) = e := by omega
            have e3 : n + 1 + (e - (n + 1)) = e := by omega
            have e4 : e - n - 1 = e - (n + 1) := by omega
            rw [e2, e3, e4]
            rfl
          refine ⟨_, rfl, _, rfl, z, rfl, hz', _, _, rfl, rfl, _, rfl, ite2 (fun h2 => ?_) (fun h2 => ?_)⟩
          · have hlt2 : e < z.length := by
              have := of_decide_eq_true h2
              omega
            have he' : e < z.cps.toList.length := by rw [← hzl]; exact hlt2
            have hce : z.cps.toList[e]? = some z.cps.toList[e] := List.getElem?_eq_getElem he'
            have hde : (z.cps.toList.drop (n + 1))[e - (n + 1)]? = some z.cps.toList[e] := by
              rw [List.getElem?_drop, ← hce]
              congr 1
              omega
            refine ⟨_, rfl, _, rfl, z, _, _, rfl, rfl, hz', atI_nat hce, _, _, rfl, rfl, _, rfl, ?_⟩
            rw [letters_mem]
            cases hl2 : letter z.cps.toList[e] with
            | true =>
              refine iteT ?_
              refine ⟨_, fun _ _ h => h, _, rfl, _, _, rfl, rfl, _, ?_, rfl, e + 1, rfl, by omega, by omega, rfl, fun i hi => ?_⟩
              · omega
              · by_cases hie : i < e - (n + 1)
                · exact hall i hie
                · obtain rfl : i = e - (n + 1) := by omega
                  exact ⟨_, hde, hl2⟩
            | false =>
              refine iteF ?_
              refine ⟨rfl, e, he1, he2, rfl, fin fun c' h' => ?_⟩
              rw [hde] at h'
              rw [← Option.some.inj h']
              exact hl2
          · have hge : e = z.length := by
              have : ¬ (e : Int) < (z.length : Int) := fun q => h2 (decide_eq_true q)
              omega
            refine ⟨rfl, e, he1, he2, rfl, fin fun c' h' => ?_⟩
            rw [List.getElem?_eq_none (by rw [List.length_drop]; omega)] at h'
            cases h'
        | false =>
          refine iteF ?_
          refine ⟨rfl, n + 1, by omega, by omega, by rw [← e1]; rfl, ?_⟩
          rw [hdrop, toks, if_neg (by rw [hl]; decide)]
          by_cases c32 : c = 32
          · rw [if_pos c32, if_pos c32]
            rfl
          · rw [if_neg c32, if_neg c32, show n + 1 - n = 1 by omega]
            rfl
      rintro σ H2 ⟨rfl, e, he1, he2, rfl, hs⟩
      refine ⟨fun σ H3 => ∃ done' : List (Nat × List Nat), σ = [some (.str z), some (.ref L), some (.int n), some (.int e)] ∧ TokAt H3 L done' ∧ done'.length ≤ e ∧ done' ++ toks e (z.cps.toList.drop e) = toks 0 z.cps.toList ∧ But (fun _ => False) H H3, ?_, ?_⟩
      · refine ⟨_, rfl, _, rfl, z, _, c, rfl, rfl, hz', atc, rfl, _, rfl, ?_⟩
        have e32 : decide (V.str ⟨#[c]⟩ = V.str (Str.ofString " ")) = decide (c = 32) := by
          by_cases q : c = 32
          · subst q; rw [decide_eq_true rfl]; decide +kernel
          · rw [decide_eq_false q, decide_eq_false]
            intro h
            injection h with h
            have h3 : (Str.ofString " ") = ⟨#[32]⟩ := by decide +kernel
            rw [h3] at h
            injection h with h
            injection h with h
            injection h with h
            exact q h
        rw [e32]
        by_cases c32 : c = 32
        · rw [decide_eq_true c32]
          rw [if_pos c32] at hs
          exact iteF ⟨done, rfl, tk, by omega, by rw [← sum, hs]; rfl, g⟩
        · rw [decide_eq_false c32]
          rw [if_neg c32] at hs
          obtain ⟨rs, t1, t2, t3⟩ := tk
          refine iteT ⟨_, rfl, .inl ⟨rfl, _, SqL.of t1⟩, _, rfl, _, rfl, _, rfl, _, rfl, _, rfl, _, rfl, z, rfl, hz', szle (by simp), fun p hp => ?_⟩
          have hpL : p ≠ L := (ne_of_none t1 hp).symm
          refine ⟨L, rs.map V.ref, _, rfl, rfl, by rw [upd_ne hpL.symm]; exact t1, by rw [List.length_map, t2]; exact szl (by omega), ?_⟩
          rw [cut_mid z n e (by omega) (by rw [← hzl]; exact he2)]
          refine ⟨done ++ [(n, (z.cps.toList.drop n).take (e - n))], rfl, ⟨rs ++ [p], by rw [upd_same, List.map_append]; rfl, by rw [List.length_append, List.length_append, t2]; rfl, fun i r t h1 h2 => ?_⟩, by rw [List.length_append]; simp only [List.length_cons, List.length_nil]; omega, by rw [← sum, hs, List.append_assoc], (g.trans (But.new hp)).fresh hL⟩
          by_cases hi : i < rs.length
          · rw [List.getElem?_append_left hi] at h1
            rw [List.getElem?_append_left (by omega)] at h2
            have a := t3 i r t h1 h2
            have hrL : r ≠ L := fun e => by
              rw [e, t1] at a
              cases a
            rw [upd_ne hrL, upd_ne (ne_of_none a hp)]
            exact a
          · have hi' : i = rs.length := by
              have := (List.getElem?_eq_some_iff.mp h1).1
              rw [List.length_append, List.length_singleton] at this
              omega
            subst hi'
            rw [List.getElem?_append_right (Nat.le_refl _), Nat.sub_self] at h1
            rw [List.getElem?_append_right (by omega), t2, Nat.sub_self] at h2
            obtain rfl : p = r := by simpa using h1
            obtain rfl : (n, (z.cps.toList.drop n).take (e - n)) = t := by simpa using h2
            rw [upd_ne hpL, upd_same]
      · rintro σ H3 ⟨done', rfl, tk', dl', sum', g'⟩
        exact ⟨_, rfl, _, by omega, e, done', _, rfl, he2, rfl, tk', dl', sum', g'⟩
    · have hge : n = z.length := by
        have : ¬ (n : Int) < (z.length : Int) := fun q => h (decide_eq_true q)
        omega
      have e0 : z.cps.toList.drop n = [] := by
        rw [hge, hzl]
        exact List.drop_length
      rw [e0, toks, List.append_nil] at sum
      rw [sum] at tk
      exact ⟨_, rfl, k L H1 hL tk g⟩
end
end K03

set_option Elab.async false
set_option linter.all false
set_option maxRecDepth 100000
set_option maxHeartbeats 4000000
set_option pp.maxSteps 300
namespace K03
open PySem L2 L2.G42
open Evl (pss_cut)
open PyProof.Rows (boot_isinstance boot_int boot_bool boot_list boot_set boot_abs boot_enumerate boot_tuple)
abbrev sIsKey : Stmt := top 10
theorem boot_all : bootBuiltins "all" = some (.builtin "all") := by decide +kernel
section
variable {P : Program} {w : World} {K : PySem.W.Frag} {mg : Str → Option Value} {base : Heap}
abbrev NIsKey : List Str := ["word", "sign"]
theorem scIsKey : FnScope NIsKey ["word"] (defScope sIsKey) := ⟨rfl, rfl, rfl, by decide +kernel, rfl, by decide +kernel, by decide +kernel⟩
theorem ok_isKey {f : Addr} {fd : FuncData} (F : Fun K "is_key" "is_key" sIsKey f fd) (T : Bn mg) (N : BkN K mg) : FnOk P w K mg base CX0 1 f fd ["word"] spIsKey := by
  refine F.ok scIsKey (fun vs H Q E h => ?_) (fun cdv A outer s H vs Q E hr h => ?_)
  · obtain ⟨x, rfl, _⟩ := h
    rfl
  · obtain ⟨x, rfl, hx, k⟩ := h
    obtain ⟨tl, gl⟩ := N.letters
    obtain ⟨ra, gr, hres⟩ := N.res
    have hx' : x.length ≤ sizeLine := Nat.le_trans hx (by decide)
    refine ⟨_, (pss_cons (ps_if (PW.pt (pw_or (pt_not (pt_chain op_le op_le pe_int (pe_callB call_len_str (by rfl) T.len PySem.boot_len (pa_cons (pv 0) pa_nil)) pe_int)) (pw_or1 (pt_cmpR op_in_seq (pv 0) (pe_glob (v := .ref ra) rfl gr rfl) rfl))))
      (pss_one (ps_ret pe_bl))
      pss_nil)
      (pss_one (ps_ret (pe_callB (cr_all rfl) (by rfl) T.all boot_all (pa_cons (pe_lc (own := [("sign", 1)]) (g := gName 1) (tt := tYes) rfl scIsKey.nd (pi_str (pv 0)) (blkOk_by (own := [("sign", 1)]) (N := NIsKey) (sc := defScope sIsKey) (by decide +kernel))
    (fun _ _ _ _ _ => (pg_name (i := 1) scIsKey.nd rfl (.inl rfl))) (fun _ _ _ _ _ => pts_nil) (fun _ _ _ _ _ => (pe_cmpR op_in_sign (pv 1) (pe_glob (v := .str lettersS) rfl gl ⟨_, rfl⟩) rfl))) pa_nil))))), ?_⟩
    have bad : (decide (1 ≤ x.length) && decide (x.length ≤ 8)) = false → isKey x = false := fun h => by
      unfold isKey
      rw [h]
      rfl
    refine ⟨_, rfl, x, rfl, hx', _, _, rfl, rfl, _, rfl, ite2 (fun h1 => ?_) (fun h1 => ?_)⟩
    · have h1' : 1 ≤ x.length := by
        have := of_decide_eq_true h1
        omega
      refine ⟨_, _, rfl, rfl, _, rfl, ?_⟩
      by_cases h2 : (x.length : Int) ≤ 8
      · have h2' : x.length ≤ 8 := by omega
        rw [decide_eq_true h2]
        refine iteF ⟨_, rfl, ra, _, rfl, .inr (hres H), rfl, flat_strs _, _, rfl, ?_⟩
        show if inV (.str x) (reserved.map V.str) = true then _ else _
        rw [inV_str]
        cases hr : reserved.contains x with
        | true =>
          refine iteT ?_
          have e : isKey x = false := by
            unfold isKey
            rw [hr]
            simp
          rw [e] at k
          exact k H But.refl
        | false =>
          refine iteF ?_
          have e : isKey x = x.cps.toList.all letter := by
            unfold isKey
            rw [hr, decide_eq_true h1', decide_eq_true h2']
            rfl
          rw [e] at k
          refine ⟨_, rfl, x, rfl, fun D hD => lc_it walk_str (fun i H1 => H1 D = some (.lst (((x.cps.toList.take i).map letter).map V.bl)) ∧ But (fun _ => False) H H1) ⟨upd_same, But.new hD⟩ (fun _ _ _ _ => trivial) (fun i v H1 H2 hi q hy => ?_) (fun H1 q => ?_)⟩
          · obtain ⟨rfl, c, hc, rfl⟩ := hy
            have hc' : x.cps.toList[i]? = some c := by
              rw [← hc]
              exact Array.getElem?_toList
            refine ⟨rfl, _, rfl, c, _, rfl, rfl, ?_⟩
            rw [letters_mem]
            refine ⟨_, q.1, ?_, ?_, q.2.fresh hD⟩
            · have hxs : x.cps.size = x.length := rfl
              simp only [List.length_map, List.length_take]
              exact szl (by omega)
            · rw [upd_same, List.take_add_one, hc', List.map_append, List.map_append]
              rfl
          · have e2 : x.cps.toList.take x.cps.size = x.cps.toList := by
              rw [← Array.length_toList]
              exact List.take_length
            rw [e2] at q
            refine ⟨D, _, rfl, SqL.of q.1, ?_⟩
            have e3 : (x.cps.toList.map letter).all id = x.cps.toList.all letter := by rw [List.all_map]; rfl
            rw [e3]
            exact k H1 q.2
      · rw [decide_eq_false h2]
        refine iteT ?_
        have e := bad (by rw [decide_eq_false (fun q : x.length ≤ 8 => h2 (by omega)), Bool.and_false])
        rw [e] at k
        exact k H But.refl
    · refine ⟨_, rfl, iteT ?_⟩
      have e := bad (by rw [decide_eq_false (fun q : 1 ≤ x.length => h1 (decide_eq_true (by omega))), Bool.false_and])
      rw [e] at k
      exact k H But.refl
end
end K03

set_option Elab.async false
set_option linter.all false
set_option maxRecDepth 100000
set_option maxHeartbeats 4000000
set_option pp.maxSteps 300
namespace K03
open PySem L2 L2.G42
open Evl (pss_cut)
open PyProof.Rows (boot_isinstance boot_int boot_bool boot_list boot_set boot_abs boot_enumerate boot_tuple)
abbrev sBadB : Stmt := inClass (top 3) 0
abbrev sRInit : Stmt := inClass (top 15) 0
abbrev sWord : Stmt := inClass (top 15) 1
abbrev sRefuse : Stmt := inClass (top 15) 2
abbrev sTakeR : Stmt := inClass (top 15) 3
section
variable {P : Program} {w : World} {K : PySem.W.Frag} {mg : Str → Option Value} {base : Heap} {R B : Addr}
theorem scBadB : FnScope ["self", "at"] ["self", "at"] (defScope sBadB) := ⟨rfl, rfl, rfl, by decide +kernel, rfl, by decide +kernel, by decide +kernel⟩
theorem ok_badB {f : Addr} {fd : FuncData} (F : Fun K "__init__" "BadBook.__init__" sBadB f fd) (O : OexC K B) (no : PySem.W.findIn K (.ref B) "at" = some none) : FnOk P w K mg base CX0 1 f fd ["self", "at"] (spErr B "at") := by
  refine F.ok scBadB (fun vs H Q E h => ?_) (fun cdv A outer s H vs Q E hr h => ?_)
  · obtain ⟨a, x, rfl, _⟩ := h
    rfl
  · obtain ⟨a, x, rfl, ha, k⟩ := h
    exact ⟨_, pss_one (ps_ost (pv 0) (pv 1)), _, rfl, _, rfl, a, B, rfl, O, no, .inl ⟨ha, fun d hd ne => k d hd ne⟩⟩
/-! __init__ -/
theorem scRInit : FnScope ["self", "text"] ["self", "text"] (defScope sRInit) := ⟨rfl, rfl, rfl, by decide +kernel, rfl, by decide +kernel, by decide +kernel⟩
theorem ok_rinit {f : Addr} {fd : FuncData} (F : Fun K "__init__" "Reader.__init__" sRInit f fd) (T : Bn mg) (Rc : RdC K R) (cToks : Cl P w K mg base 1 "tokens_of" spToks []) : FnOk P w K mg base CX0 2 f fd ["self", "text"] (spRInit R) := by
  refine F.ok scRInit (fun vs H Q E h => ?_) (fun cdv A outer s H vs Q E hr h => ?_)
  · obtain ⟨r, dx, z, rfl, _⟩ := h
    rfl
  · obtain ⟨r, dx, z, rfl, hr0, hz, k⟩ := h
    refine ⟨_, (pss_cons (ps_fld (pv 0) (pe_c cToks hr (by decide) rfl (pa_cons (pv 1) pa_nil)) rfl)
      (pss_cons (ps_fld (pv 0) (pe_callB call_len_str (by rfl) T.len PySem.boot_len (pa_cons (pv 1) pa_nil)) rfl)
      (pss_cons (ps_fld (pv 0) pe_int rfl)
      (pss_cons (ps_fld (pv 0) pe_dnewT rfl)
      (pss_cons (ps_fld (pv 0) pe_int rfl)
      (pss_one (ps_fld (pv 0) pe_int rfl))))))), ?_⟩
    refine ⟨_, rfl, z, rfl, hz, fun Fa H1 hF tk g1 => ?_⟩
    have hrF : r ≠ Fa := ne_of_none hr0 hF
    refine ⟨_, rfl, r, R, dx, [], rfl, g1 _ _ hr0 id, Rc.cl, Rc.n0, (by show 0 < 1000; decide), ?_⟩
    refine ⟨_, rfl, z, rfl, Nat.le_trans hz (by decide), _, rfl, r, R, dx, _, rfl, upd_same, Rc.cl, Rc.n1, (by show 1 < 1000; decide), ?_⟩
    refine ⟨_, rfl, r, R, dx, _, rfl, upd_same, Rc.cl, Rc.n2, (by show 2 < 1000; decide), ?_⟩
    intro D hD
    rw [upd_twice, upd_twice] at *
    have hDr : D ≠ r := fun e => by rw [e, upd_same] at hD; cases hD
    rw [upd_ne hDr] at hD
    refine ⟨_, rfl, r, R, dx, _, rfl, (by rw [upd_ne hDr.symm]; exact upd_same), Rc.cl, Rc.n3, (by show 3 < 1000; decide), ?_⟩
    refine ⟨_, rfl, r, R, dx, _, rfl, upd_same, Rc.cl, Rc.n4, (by show 4 < 1000; decide), ?_⟩
    refine ⟨_, rfl, r, R, dx, _, rfl, upd_same, Rc.cl, Rc.n5, (by show 5 < 1000; decide), ?_⟩
    rw [upd_twice, upd_twice]
    have bt : ∀ o1 o2 o3, But (· = r) H1 (upd (upd (upd H1 r o1) D o2) r o3) := fun o1 o2 o3 x o h n => by
      rw [upd_ne n, upd_ne (ne_of_none h hD), upd_ne n]
      exact h
    refine k Fa D _ hF (g1.free hD) ⟨⟨dx, ?_⟩, ?_, ?_⟩ fun x o h n => bt _ _ _ x o (g1 x o h id) n
    · rw [upd_same]
      exact congrArg some (congrArg (HO.ins R dx) (rf_start Fa D z))
    · obtain ⟨rs, t1, t2, t3⟩ := tk
      refine ⟨rs, bt _ _ _ _ _ t1 hrF.symm, t2, fun i q t h1 h2 => bt _ _ _ _ _ (t3 i q t h1 h2) fun e => ?_⟩
      have := t3 i q t h1 h2
      rw [e, g1 _ _ hr0 id] at this
      cases this
    · rw [upd_ne hDr, upd_same]
      rfl
/-! word -/
theorem scWord : FnScope ["self"] ["self"] (defScope sWord) := ⟨rfl, rfl, rfl, by decide +kernel, rfl, by decide +kernel, by decide +kernel⟩
theorem ok_word {f : Addr} {fd : FuncData} (F : Fun K "word" "Reader.word" sWord f fd) (T : Bn mg) (Rc : RdC K R) : FnOk P w K mg base CX0 1 f fd ["self"] (spWord R) := by
  refine F.ok scWord (fun vs H Q E h => ?_) (fun cdv A outer s H vs Q E hr h => ?_)
  · obtain ⟨r, Fa, D, s, rfl, _⟩ := h
    rfl
  · obtain ⟨r, Fa, D, s, rfl, ⟨⟨dx, ob⟩, ⟨rs, t1, t2, t3⟩, ma⟩, k⟩ := h
    refine ⟨_, (pss_cons (ps_if (pt_cmpR op_lt (pe_fld (pv 0) rfl) (pe_callB call_len_seq (by rfl) T.len PySem.boot_len (pa_cons (pe_fld (pv 0) rfl) pa_nil)) (nomark _))
      (pss_one (ps_ret (pe_ix ix_tup (pe_ix ix_list (pe_fld (pv 0) rfl) (pe_fld (pv 0) rfl) (fun _ _ => rfl)) pe_int (fun _ _ => rfl))))
      pss_nil)
      (pss_one (ps_ret pe_str))), ?_⟩
    refine ⟨_, rfl, r, R, dx, _, _, rfl, ob, Rc.cl, Rc.n2, rl_next_at _ _ _, _, rfl, r, R, dx, _, _, rfl, ob, Rc.cl, Rc.n0, rl_tokens _ _ _, Fa, _, rfl, .inl (SqL.of t1), _, _, rfl, rfl, _, rfl, ite2 (fun h => ?_) (fun h => ?_)⟩
    · have hlt : s.at_ < rs.length := by
        have := of_decide_eq_true h
        rw [List.length_map] at this
        omega
      have hts : s.at_ < s.toks.length := by rw [← t2]; exact hlt
      have hg : (rs.map V.ref)[s.at_]? = some (.ref rs[s.at_]) := by rw [List.getElem?_map, List.getElem?_eq_getElem hlt]; rfl
      have ht := t3 s.at_ _ _ (List.getElem?_eq_getElem hlt) (List.getElem?_eq_getElem hts)
      refine ⟨_, rfl, r, R, dx, _, _, rfl, ob, Rc.cl, Rc.n0, rl_tokens _ _ _, _, rfl, r, R, dx, _, _, rfl, ob, Rc.cl, Rc.n2, rl_next_at _ _ _, Fa, _, _, _, rfl, rfl, SqL.of t1, atI_nat hg, _, _, _, _, rfl, rfl, .inl (.inl ht), rfl, ?_⟩
      have e : s.word = tx s.toks[s.at_].2 := by
        unfold Rd.word
        rw [List.getElem?_eq_getElem hts]
      rw [e] at k
      exact k
    · have e : s.word = "" := by
        have hge : ¬ s.at_ < s.toks.length := fun q => h (decide_eq_true (by rw [List.length_map, t2]; omega))
        unfold Rd.word
        rw [List.getElem?_eq_none (by omega)]
      rw [e] at k
      exact k
end
end K03

set_option Elab.async false
set_option linter.all false
set_option maxRecDepth 100000
set_option maxHeartbeats 4000000
set_option pp.maxSteps 300
namespace K03
open PySem L2 L2.G42
open Evl (pss_cut)
section
variable {P : Program} {w : World} {K : PySem.W.Frag} {mg : Str → Option Value} {base : Heap} {R B : Addr}
theorem scRefuse : FnScope ["self"] ["self"] (defScope sRefuse) := ⟨rfl, rfl, rfl, by decide +kernel, rfl, by decide +kernel, by decide +kernel⟩
theorem ok_refuse {f : Addr} {fd : FuncData} (F : Fun K "refuse" "Reader.refuse" sRefuse f fd) (T : Bn mg) (Rc : RdC K R) (er : Er P w K mg base 1 "BadBook" B "at") : FnOk P w K mg base (L2.CX P w) 3 f fd ["self"] (spRefuse R B) := by
  refine F.okX scRefuse (fun vs H Q E h => ?_) (fun cdv A outer s H vs Q E hr h => ?_)
  · obtain ⟨r, Fa, D, s, rfl, _⟩ := h
    rfl
  · obtain ⟨r, Fa, D, s, rfl, ⟨⟨dx, ob⟩, ⟨rs, t1, t2, t3⟩, ma⟩, k⟩ := h
    refine ⟨_, (pss_cons (ps_if (pt_cmpR op_lt (pe_fld (pv 0) rfl) (pe_callB call_len_seq (by rfl) T.len PySem.boot_len (pa_cons (pe_fld (pv 0) rfl) pa_nil)) (nomark _))
      (pss_one (ps_raise1 er rfl (takes_of rfl rfl rfl rfl) hr (by decide) rfl (pe_ix ix_tup (pe_ix ix_list (pe_fld (pv 0) rfl) (pe_fld (pv 0) rfl) (fun _ _ => rfl)) pe_int (fun _ _ => rfl))))
      pss_nil)
      (pss_one (ps_raise1 er rfl (takes_of rfl rfl rfl rfl) hr (by decide) rfl (pe_fld (pv 0) rfl)))), ?_⟩
    refine ⟨_, rfl, r, R, dx, _, _, rfl, ob, Rc.cl, Rc.n2, rl_next_at _ _ _, _, rfl, r, R, dx, _, _, rfl, ob, Rc.cl, Rc.n0, rl_tokens _ _ _, Fa, _, rfl, .inl (SqL.of t1), _, _, rfl, rfl, _, rfl, ite2 (fun h => ?_) (fun h => ?_)⟩
    · have hlt : s.at_ < rs.length := by
        have := of_decide_eq_true h
        rw [List.length_map] at this
        omega
      have hts : s.at_ < s.toks.length := by rw [← t2]; exact hlt
      have hg : (rs.map V.ref)[s.at_]? = some (.ref rs[s.at_]) := by rw [List.getElem?_map, List.getElem?_eq_getElem hlt]; rfl
      have ht := t3 s.at_ _ _ (List.getElem?_eq_getElem hlt) (List.getElem?_eq_getElem hts)
      refine ⟨_, rfl, r, R, dx, _, _, rfl, ob, Rc.cl, Rc.n0, rl_tokens _ _ _, _, rfl, r, R, dx, _, _, rfl, ob, Rc.cl, Rc.n2, rl_next_at _ _ _, Fa, _, _, _, rfl, rfl, SqL.of t1, atI_nat hg, _, _, _, _, rfl, rfl, .inl (.inl ht), rfl, ?_⟩
      have e : s.pos = s.toks[s.at_].1 := by
        unfold Rd.pos
        rw [List.getElem?_eq_getElem hts]
      rw [e] at k
      exact err_one fun d hd => k d hd
    · have e : s.pos = s.size := by
        have hge : ¬ s.at_ < s.toks.length := fun q => h (decide_eq_true (by rw [List.length_map, t2]; omega))
        unfold Rd.pos
        rw [List.getElem?_eq_none (by omega)]
      rw [e] at k
      exact ⟨_, rfl, r, R, dx, _, _, rfl, ob, Rc.cl, Rc.n1, rl_size _ _ _, err_one fun d hd => k d hd⟩
/-! take -/
theorem scTakeR : FnScope ["self", "sign"] ["self", "sign"] (defScope sTakeR) := ⟨rfl, rfl, rfl, by decide +kernel, rfl, by decide +kernel, by decide +kernel⟩
theorem ok_takeR {f : Addr} {fd : FuncData} (F : Fun K "take" "Reader.take" sTakeR f fd) (Rc : RdC K R) (mWord : Mt P w K mg base 1 R "word" (spWord R) []) (mRefuse : MtX P w K mg base 3 R "refuse" (spRefuse R B) []) : FnOk P w K mg base (L2.CX P w) 4 f fd ["self", "sign"] (spTakeR R B) := by
  refine F.okX scTakeR (fun vs H Q E h => ?_) (fun cdv A outer s H vs Q E hr h => ?_)
  · obtain ⟨r, Fa, D, s, x, rfl, _⟩ := h
    rfl
  · obtain ⟨r, Fa, D, s, x, rfl, rd, k1, k2⟩ := h
    refine ⟨_, (pss_cons (ps_if (pt_cmpR op_ne (pe_mt0 mWord hr (by decide) (pv 0)) (pv 1) (nomark _))
      (pss_one (ps_expr (pe_mtS0 mRefuse (takes_of rfl rfl rfl rfl) hr (by decide) (pv 0))))
      pss_nil)
      (pss_one (ps_fldaug (pv 0) pe_int in_add))), ?_⟩
    obtain ⟨dx, ob⟩ := rd.ob
    refine ⟨_, rfl, r, dx, _, rfl, ob, rl_no _ _ _ (by decide +kernel), r, Fa, D, s, rfl, rd, _, rfl, rfl, _, rfl, ?_⟩
    by_cases e : s.word = x
    · rw [decide_eq_true (by rw [e])]
      have et : rdTake x s = .ok s.step := if_pos e
      refine iteF ⟨_, rfl, r, R, dx, _, _, rfl, ob, Rc.cl, Rc.n2, rl_next_at _ _ _, _, _, rfl, rfl, dx, _, ob, rfs_len _ _ _, ?_⟩
      have ep : putF "next_at" (.int ((s.at_ : Int) + 1)) (rfs Fa D s) = rfs Fa D s.step := rp_next_at Fa D s (s.at_ + 1)
      refine k1 _ et _ ?_ (But.at (.inl rfl))
      show RdAt R (upd H r (.ins R dx (putF "next_at" (.int ((s.at_ : Int) + 1)) (rfs Fa D s)))) r Fa D s.step
      rw [ep]
      exact rd.set rfl rfl
    · rw [decide_eq_false (fun q => e (by injection q))]
      have et : rdTake x s = .error s.pos := if_neg e
      refine iteT ⟨_, rfl, r, dx, _, rfl, ob, rl_no _ _ _ (by decide +kernel), r, Fa, D, s, rfl, rd, fun d hd => ?_⟩
      exact k2 _ et d _ hd upd_same (But.new hd)
end
end K03

set_option Elab.async false
set_option linter.all false
set_option maxRecDepth 100000
set_option maxHeartbeats 4000000
set_option pp.maxSteps 300
namespace K03
open PySem L2 L2.G42
open Evl (pss_cut)
open _root_.ClX (CRead CVal pe_cval)
abbrev sEntry : Stmt := inClass (top 15) 6
section
variable {P : Program} {w : World} {K : PySem.W.Frag} {mg : Str → Option Value} {base : Heap} {R B BK : Addr} {mc : Value}
theorem cat_key {H : Hp} {Q : VK} {pl b : Addr} {place : List Key} {key : Str} (hp : H pl = some (.tup (place.map kV))) (hb : H b = some (.tup [.str key])) (few : place.length ≤ 10)
    (k : ∀ (q : Addr) (H' : Hp), H' q = some (.tup ((place ++ [Sum.inr key]).map kV)) → But (fun _ => False) H H' → Q (.ref q) H') : rCatA K (.ref pl) (.ref b) H Q := by
  refine ⟨pl, b, _, _, rfl, rfl, .inl (.inl hp), .inl (.inl hb), by simp only [List.length_map, List.length_cons, List.length_nil]; exact szle (by omega), fun e => ?_, fun _ e => (nomatch e), fun _ _ q hq => ?_⟩
  · have e' : place = [] := by simpa using e
    subst e'
    exact k b H hb But.refl
  · refine k q _ ?_ (But.new hq)
    rw [upd_same, List.map_append]
    rfl
abbrev NEntry : List Str := ["self", "place", "key", "kind"]
theorem scEntry : FnScope NEntry ["self", "place"] (defScope sEntry) := ⟨rfl, rfl, rfl, by decide +kernel, rfl, by decide +kernel, by decide +kernel⟩
theorem ok_entry {k n : Nat} {f : Addr} {fd : FuncData} (F : Fun K "read_entry" "Reader.read_entry" sEntry f fd) (N : BkN K mg) (Bc : BkC K mg BK mc) (Rc : RdC K R) (cIsKey : Cl P w K mg base 1 "is_key" spIsKey []) (mWord : Mt P w K mg base 1 R "word" (spWord R) []) (mRefuse : MtX P w K mg base 3 R "refuse" (spRefuse R B) [])
    (mTake : MtX P w K mg base 4 R "take" (spTakeR R B) []) (h4 : 4 ≤ k) (mRT : MtX P w K mg base k R "read_table" (spRT R B n) []) : FnOk P w K mg base (L2.CX P w) (k + 1) f fd ["self", "place"] (spRE R B n) := by
  refine F.okX scEntry (fun vs H Q E h => ?_) (fun cdv A outer s H vs Q E hr h => ?_)
  · obtain ⟨r, Fa, D, pl, place, s, rfl, _⟩ := h
    rfl
  · obtain ⟨r, Fa, D, pl, place, s, rfl, rd, hpl, lv, ok, fin⟩ := h
    obtain ⟨ka, gk, hk⟩ := N.kinds
    obtain ⟨tb, cb⟩ := Bc.bags
    have hu := hu_of hr
    refine ⟨_, (pss_cons (ps_set (i := 2) scEntry.nd rfl (.inl rfl) (pe_mt0 mWord hr (by omega) (pv 0)))
      (pss_cons (ps_if (PW.pt (pw_or (pt_not (pt_val (pe_c cIsKey hr (by omega) rfl (pa_cons (pv 2) pa_nil)))) (pw_or1 (pt_cmp (pc_din hu (pe_op op_catA (pv 1) (pe_tup (pa_cons (pv 2) pa_nil))) (pe_fld (pv 0) rfl))))))
      (pss_one (ps_expr (pe_mtS0 mRefuse (takes_of rfl rfl rfl rfl) hr (by omega) (pv 0))))
      pss_nil)
      (pss_cons (ps_fldaug (pv 0) pe_int in_add)
      (pss_cons (ps_expr (pe_mtS mTake (takes_of rfl rfl rfl rfl) hr (by omega) (pv 0) (pa_cons pe_str pa_nil)))
      (pss_cons (ps_set (i := 3) scEntry.nd rfl (.inl rfl) (pe_mt0 mWord hr (by omega) (pv 0)))
      (pss_cons (ps_if (pt_cmpR op_notIn_seq (pv 3) (pe_glob (v := .ref ka) rfl gk rfl) rfl)
      (pss_cons (ps_expr (pe_mtS mRT (takes_of rfl rfl rfl rfl) hr (Nat.le_refl _) (pv 0) (pa_cons (pe_op op_catA (pv 1) (pe_tup (pa_cons (pv 2) pa_nil))) pa_nil)))
        (pss_one ps_retN))
      pss_nil)
      (pss_cons (ps_if (pt_cmpR op_eq (pe_fld (pv 0) rfl) (pe_cval (pe_glob (v := .ref BK) rfl Bc.gl rfl)) (nomark _))
      (pss_one (ps_expr (pe_mtS0 mRefuse (takes_of rfl rfl rfl rfl) hr (by omega) (pv 0))))
      pss_nil)
      (pss_cons (ps_fldaug (pv 0) pe_int in_add)
      (pss_cons (ps_dput hu (pe_fld (pv 0) rfl) (pe_op op_catA (pv 1) (pe_tup (pa_cons (pv 2) pa_nil))) (pv 3) rfl)
      (pss_one (ps_fldaug (pv 0) pe_int in_add))))))))))), ?_⟩
    obtain ⟨dx, ob⟩ := rd.ob
    have few : place.length ≤ 10 := by omega
    refine ⟨_, rfl, r, dx, _, rfl, ob, rl_no _ _ _ (by decide +kernel), r, Fa, D, s, rfl, rd, ?_⟩
    refine ⟨_, rfl, s.word, rfl, ok.word, fun H1 g1 => ⟨_, rfl, ?_⟩⟩
    have rd1 := rd.grow g1
    have hpl1 := g1 _ _ hpl id
    have fin1 := fin.shift (g1.mono fun _ h => h.elim) rd1
    obtain ⟨dx1, ob1⟩ := rd1.ob
    -- refused
    have bad : ∀ {H2 : Hp}, But (fun _ => False) H1 H2 → (isKey s.word = false ∨ (valV s.marks (place ++ [Sum.inr s.word])).isSome = true) → ∀ d, H2 d = none → E (.ref B) (some d) (upd H2 d (.xd [("at", .int (s.pos : Nat))])) := fun {H2} g hc d hd => by
      have rd2 := rd1.grow g
      have k2 := (fin1.shift (g.mono fun _ h => h.elim) rd2).2 s.pos (by unfold rdEntry; rw [if_pos hc]) d _ hd upd_same (But.new hd)
      exact k2
    cases hkey : isKey s.word with
    | false =>
      refine iteT ⟨_, rfl, r, dx1, _, rfl, ob1, rl_no _ _ _ (by decide +kernel), r, Fa, D, s, rfl, rd1, bad But.refl (.inl hkey)⟩
    | true =>
      refine iteF ⟨_, rfl, _, rfl, szle (by simp), fun b hb => ?_⟩
      have g2 : But (fun _ => False) H1 (upd H1 b (.tup [.str s.word])) := But.new hb
      refine cat_key (K := K) (g2 _ _ hpl1 id) upd_same few fun q H2 hq g3 => ?_
      have g13 := g2.trans g3
      have rd2 := rd1.grow g13
      have hpl2 := g13 _ _ hpl1 id
      obtain ⟨dx2, ob2⟩ := rd2.ob
      refine ⟨_, rfl, r, R, dx2, _, _, rfl, ob2, Rc.cl, Rc.n3, rl_marks _ _ _, D, _, rfl, DGet.t rd2.ma hq, _, rfl, ?_⟩
      cases hin : (valV s.marks (place ++ [Sum.inr s.word])).isSome with
      | true => exact iteT ⟨_, rfl, r, dx2, _, rfl, ob2, rl_no _ _ _ (by decide +kernel), r, Fa, D, s, rfl, rd2, bad g13 (.inr hin)⟩
      | false =>
        refine iteF ?_
        have fin2 := fin1.shift (g13.mono fun _ h => h.elim) rd2
        have eE : rdEntry (rdTable n) place s = (rdTake ":" s.step).bind fun s2 => if kinds.contains s2.word = false then rdTable n (place ++ [Sum.inr s.word]) s2
            else if s2.nb = 6 then .error s2.pos else .ok { s2.step with nb := s2.nb + 1, marks := putK s2.marks (place ++ [Sum.inr s.word]) (.str s2.word) } := by
          unfold rdEntry
          rw [if_neg (by rw [hkey, hin]; simp)]
        rw [eE] at fin2
        -- next_at += 1
        refine ⟨_, rfl, r, R, dx2, _, _, rfl, ob2, Rc.cl, Rc.n2, rl_next_at _ _ _, _, _, rfl, rfl, dx2, _, ob2, rfs_len _ _ _, ?_⟩
        have ep : putF "next_at" (.int ((s.at_ : Int) + 1)) (rfs Fa D s) = rfs Fa D s.step := rp_next_at Fa D s (s.at_ + 1)
        have rd3 : RdAt R (upd H2 r (.ins R dx2 (putF "next_at" (.int ((s.at_ : Int) + 1)) (rfs Fa D s)))) r Fa D s.step := by
          rw [ep]
          exact rd2.set rfl rfl
        have b3 : But (fun x => x = r ∨ x = D) H2 (upd H2 r (.ins R dx2 (putF "next_at" (.int ((s.at_ : Int) + 1)) (rfs Fa D s)))) := But.at (.inl rfl)
        have hpl3 := b3 _ _ hpl2 (fun e => e.elim (fun e => by rw [e, ob2] at hpl2; cases hpl2) (fun e => by rw [e, rd2.ma] at hpl2; cases hpl2))
        have fin3 := fin2.shift b3 rd3
        show tSeq _ _ _ _ (upd H2 r (.ins R dx2 (putF "next_at" (.int ((s.at_ : Int) + 1)) (rfs Fa D s))))
        generalize upd H2 r (.ins R dx2 (putF "next_at" (.int ((s.at_ : Int) + 1)) (rfs Fa D s))) = H3 at rd3 b3 hpl3 fin3 ⊢
        obtain ⟨dx3, ob3⟩ := rd3.ob
        refine ⟨_, rfl, r, dx3, _, rfl, ob3, rl_no _ _ _ (by decide +kernel), r, Fa, D, s.step, ":", rfl, rd3, fun s2 e2 H4 rd4 b4 => ?_, fin3.err⟩
        have ok2 : s2.Ok := rdTake_ok e2 ⟨ok.m, ok.t, ok.b, ok.w⟩
        have fin4 := fin3.rest e2 b4 rd4
        have hpl4 := b4 _ _ hpl3 (fun e => e.elim (fun e => by rw [e, ob3] at hpl3; cases hpl3) (fun e => by rw [e, rd3.ma] at hpl3; cases hpl3))
        obtain ⟨dx4, ob4⟩ := rd4.ob
        refine ⟨_, rfl, r, dx4, _, rfl, ob4, rl_no _ _ _ (by decide +kernel), r, Fa, D, s2, rfl, rd4, ?_⟩
        refine ⟨_, rfl, ka, _, rfl, .inr (hk H4), rfl, L2.flat_strs ["*", "!"], _, rfl, ?_⟩
        show if (!inV (.str s2.word) (kinds.map V.str)) = true then _ else _
        rw [inV_str]
        cases hkd : kinds.contains s2.word with
        | false =>
          rw [hkd, if_pos rfl] at fin4
          refine iteT ⟨_, rfl, r, dx4, _, rfl, ob4, rl_no _ _ _ (by decide +kernel), _, rfl, _, rfl, szle (by simp), fun b5 hb5 => ?_⟩
          have g5 : But (fun _ => False) H4 (upd H4 b5 (.tup [.str s.word])) := But.new hb5
          refine cat_key (K := K) (g5 _ _ hpl4 id) upd_same few fun q5 H5 hq5 g5' => ?_
          have g45 := g5.trans g5'
          have rd5 := rd4.grow g45
          have fin5 := fin4.shift (g45.mono fun _ h => h.elim) rd5
          refine ⟨r, Fa, D, q5, place ++ [Sum.inr s.word], s2, rfl, rd5, hq5, by rw [List.length_append]; exact lv, ok2, fun s' e' H' h' b' => fin5.1 s' e' H' h' b', fin5.2⟩
        | true =>
          rw [hkd, if_neg (by decide)] at fin4
          refine iteF ?_
          refine ⟨_, rfl, r, R, dx4, _, _, rfl, ob4, Rc.cl, Rc.n5, rl_many_bags _ _ _, BK, mc, _, _, rfl, Bc.rd, cb, rfl, _, rfl, ?_⟩
          by_cases h6 : s2.nb = 6
          · rw [if_pos h6] at fin4
            rw [decide_eq_true (by rw [h6]; rfl)]
            refine iteT ⟨_, rfl, r, dx4, _, rfl, ob4, rl_no _ _ _ (by decide +kernel), r, Fa, D, s2, rfl, rd4, fun d hd => ?_⟩
            exact fin4.2 _ rfl d _ hd upd_same (But.new hd)
          · rw [if_neg h6] at fin4
            rw [decide_eq_false (fun q => h6 (by injection q with q; omega))]
            refine iteF ?_
            -- many_bags += 1
            refine ⟨_, rfl, r, R, dx4, _, _, rfl, ob4, Rc.cl, Rc.n5, rl_many_bags _ _ _, _, _, rfl, rfl, dx4, _, ob4, rfs_len _ _ _, ?_⟩
            have ep5 : putF "many_bags" (.int ((s2.nb : Int) + 1)) (rfs Fa D s2) = rfs Fa D { s2 with nb := s2.nb + 1 } := rp_many_bags Fa D s2 (s2.nb + 1)
            have rd5 : RdAt R (upd H4 r (.ins R dx4 (putF "many_bags" (.int ((s2.nb : Int) + 1)) (rfs Fa D s2)))) r Fa D { s2 with nb := s2.nb + 1 } := by
              rw [ep5]
              exact rd4.set rfl rfl
            have b5 : But (fun x => x = r ∨ x = D) H4 (upd H4 r (.ins R dx4 (putF "many_bags" (.int ((s2.nb : Int) + 1)) (rfs Fa D s2)))) := But.at (.inl rfl)
            have hpl5 := b5 _ _ hpl4 (fun e => e.elim (fun e => by rw [e, ob4] at hpl4; cases hpl4) (fun e => by rw [e, rd4.ma] at hpl4; cases hpl4))
            have fin5 := fin4.shift b5 rd5
            show tSeq _ _ _ _ (upd H4 r (.ins R dx4 (putF "many_bags" (.int ((s2.nb : Int) + 1)) (rfs Fa D s2))))
            generalize upd H4 r (.ins R dx4 (putF "many_bags" (.int ((s2.nb : Int) + 1)) (rfs Fa D s2))) = H5 at rd5 b5 hpl5 fin5 ⊢
            -- marks[place + (key,)] = kind
            obtain ⟨dx5, ob5⟩ := rd5.ob
            refine ⟨_, rfl, _, rfl, r, R, dx5, _, _, rfl, ob5, Rc.cl, Rc.n3, rl_marks _ _ _, _, rfl, _, rfl, szle (by simp), fun b6 hb6 => ?_⟩
            have g6 : But (fun _ => False) H5 (upd H5 b6 (.tup [.str s.word])) := But.new hb6
            refine cat_key (K := K) (g6 _ _ hpl5 id) upd_same few fun q6 H6 hq6 g6' => ?_
            have g56 := g6.trans g6'
            have rd6 := rd5.grow g56
            have fin6 := fin5.shift (g56.mono fun _ h => h.elim) rd6
            refine ⟨D, _, rfl, DPut.t rd6.ma hq6 (szl (by have a := ok2.m; have b := ok2.t; have c := ok2.b; show s2.marks.length ≤ 100000; omega)), ?_⟩
            have rd7 : RdAt R (upd H6 D (.dT (putK s2.marks (place ++ [Sum.inr s.word]) (.str s2.word)))) r Fa D { s2 with nb := s2.nb + 1, marks := putK s2.marks (place ++ [Sum.inr s.word]) (.str s2.word) } :=
              rd6.put (s' := { s2 with nb := s2.nb + 1, marks := putK s2.marks (place ++ [Sum.inr s.word]) (.str s2.word) }) rfl rfl
            have b7 : But (fun x => x = r ∨ x = D) H6 (upd H6 D (.dT (putK s2.marks (place ++ [Sum.inr s.word]) (.str s2.word)))) := But.at (.inr rfl)
            have fin7 := fin6.shift b7 rd7
            obtain ⟨dx7, ob7⟩ := rd7.ob
            generalize upd H6 D (.dT (putK s2.marks (place ++ [Sum.inr s.word]) (.str s2.word))) = H7 at rd7 b7 fin7 ob7 ⊢
            -- next_at += 1
            refine ⟨_, rfl, r, R, dx7, _, _, rfl, ob7, Rc.cl, Rc.n2, rl_next_at _ _ _, _, _, rfl, rfl, dx7, _, ob7, rfs_len _ _ _, ?_⟩
            refine fin7.1 _ rfl _ ?_ (But.at (.inl rfl))
            have ep8 := rp_next_at Fa D { s2 with nb := s2.nb + 1, marks := putK s2.marks (place ++ [Sum.inr s.word]) (.str s2.word) } (s2.at_ + 1)
            show RdAt R (upd H7 r (.ins R dx7 (putF "next_at" (.int ((s2.at_ : Int) + 1)) (rfs Fa D { s2 with nb := s2.nb + 1, marks := putK s2.marks (place ++ [Sum.inr s.word]) (.str s2.word) })))) r Fa D _
            rw [show ((s2.at_ : Int) + 1) = ((s2.at_ + 1 : Nat) : Int) from rfl, ep8]
            exact rd7.set rfl rfl
end
end K03

set_option Elab.async false
set_option linter.all false
set_option maxRecDepth 100000
set_option maxHeartbeats 4000000
set_option pp.maxSteps 300
namespace K03
open PySem L2 L2.G42
open Evl (pss_cut)
open _root_.ClX (CRead CVal pe_cval)
abbrev sTable : Stmt := inClass (top 15) 5
section
variable {P : Program} {w : World} {K : PySem.W.Frag} {mg : Str → Option Value} {base : Heap} {R B BK : Addr} {mc : Value}
abbrev NTable : List Str := ["self", "place", "mode", "many"]
theorem scTable : FnScope NTable ["self", "place"] (defScope sTable) := ⟨rfl, rfl, rfl, by decide +kernel, rfl, by decide +kernel, by decide +kernel⟩
/-- a table at the fifth level: refused -/
theorem ok_table0 {f : Addr} {fd : FuncData} (F : Fun K "read_table" "Reader.read_table" sTable f fd) (T : Bn mg) (Bc : BkC K mg BK mc) (Rc : RdC K R) (mWord : Mt P w K mg base 1 R "word" (spWord R) []) (mRefuse : MtX P w K mg base 3 R "refuse" (spRefuse R B) []) :
    FnOk P w K mg base (L2.CX P w) 5 f fd ["self", "place"] (spRT R B 0) := by
  refine F.okX scTable (fun vs H Q E h => ?_) (fun cdv A outer s H vs Q E hr h => ?_)
  · obtain ⟨r, Fa, D, pl, place, s, rfl, _⟩ := h
    rfl
  · obtain ⟨r, Fa, D, pl, place, s, rfl, rd, hpl, lv, ok, fin⟩ := h
    obtain ⟨ma, cm, hm⟩ := Bc.modes
    obtain ⟨tl, cl⟩ := Bc.levels
    obtain ⟨tt, ct⟩ := Bc.tables
    refine ⟨_, (pss_cons (ps_set (i := 2) scTable.nd rfl (.inl rfl) (pe_mt0 mWord hr (by decide) (pv 0)))
      (pss_cons (ps_if (PW.pt (pw_or (pt_cmpR op_notIn_seq (pv 2) (pe_cval (pe_glob (v := .ref BK) rfl Bc.gl rfl)) rfl) (pw_or (pt_cmpR op_eq (pe_callB call_len_seq (by rfl) T.len PySem.boot_len (pa_cons (pv 1) pa_nil)) (pe_cval (pe_glob (v := .ref BK) rfl Bc.gl rfl)) (nomark _)) (pw_or1 (pt_cmpR op_eq (pe_fld (pv 0) rfl) (pe_cval (pe_glob (v := .ref BK) rfl Bc.gl rfl)) (nomark _))))))
      (pss_one (ps_expr (pe_mtS0 mRefuse (takes_of rfl rfl rfl rfl) hr (by decide) (pv 0))))
      pss_nil)
      pss_never)), ?_⟩
    obtain ⟨dx, ob⟩ := rd.ob
    have bad : ∀ d, H d = none → E (.ref B) (some d) (upd H d (.xd [("at", .int (s.pos : Nat))])) := fun d hd => fin.2 _ rfl d _ hd upd_same (But.new hd)
    refine ⟨_, rfl, r, dx, _, rfl, ob, rl_no _ _ _ (by decide +kernel), r, Fa, D, s, rfl, rd, ?_⟩
    refine ⟨_, rfl, BK, mc, _, _, rfl, Bc.rd, cm, ma, _, rfl, .inr (hm H), rfl, L2.flat_strs modes, _, rfl, ?_⟩
    show if (!inV (.str s.word) (modes.map V.str)) = true then _ else _
    rw [inV_str]
    cases hmo : modes.contains s.word with
    | false => exact iteT ⟨_, rfl, r, dx, _, rfl, ob, rl_no _ _ _ (by decide +kernel), r, Fa, D, s, rfl, rd, bad⟩
    | true =>
      refine iteF ⟨_, rfl, pl, _, rfl, .inr (.inl (.inl hpl)), BK, mc, _, _, rfl, Bc.rd, cl, rfl, _, rfl, ?_⟩
      rw [decide_eq_true (by rw [List.length_map, show place.length = 4 by omega]; rfl)]
      exact iteT ⟨_, rfl, r, dx, _, rfl, ob, rl_no _ _ _ (by decide +kernel), r, Fa, D, s, rfl, rd, bad⟩
end
end K03

set_option Elab.async false
set_option linter.all false
set_option maxRecDepth 100000
set_option maxHeartbeats 4000000
set_option pp.maxSteps 300
namespace K03
open PySem L2 L2.G42
open Evl (pss_cut)
open _root_.ClX (CRead CVal pe_cval)
section
variable {P : Program} {w : World} {K : PySem.W.Frag} {mg : Str → Option Value} {base : Heap} {R B BK : Addr} {mc : Value}
/-- what is left to read behind m entries -/
def pend (ent : Rd → Except Nat Rd) : Nat → Rd → Except Nat Rd
  | 0, s => (ent s).bind fun s3 => (rdMore ent 2 s3).bind (rdTake "}")
  | m + 1, s => (rdMore ent (2 - m) s).bind (rdTake "}")
theorem ok_tableS {k n : Nat} {f : Addr} {fd : FuncData} (F : Fun K "read_table" "Reader.read_table" sTable f fd) (T : Bn mg) (Bc : BkC K mg BK mc) (Rc : RdC K R) (mWord : Mt P w K mg base 1 R "word" (spWord R) []) (mRefuse : MtX P w K mg base 3 R "refuse" (spRefuse R B) [])
    (mTake : MtX P w K mg base 4 R "take" (spTakeR R B) []) (h4 : 4 ≤ k) (mRE : MtX P w K mg base k R "read_entry" (spRE R B n) []) : FnOk P w K mg base (L2.CX P w) (k + 1) f fd ["self", "place"] (spRT R B (n + 1)) := by
  refine F.okX scTable (fun vs H Q E h => ?_) (fun cdv A outer s H vs Q E hr h => ?_)
  · obtain ⟨r, Fa, D, pl, place, s, rfl, _⟩ := h
    rfl
  · obtain ⟨r, Fa, D, pl, place, s, rfl, rd, hpl, lv, ok, fin⟩ := h
    obtain ⟨ma, cm, hm⟩ := Bc.modes
    obtain ⟨tl, cl⟩ := Bc.levels
    obtain ⟨tt, ct⟩ := Bc.tables
    obtain ⟨tk, ck⟩ := Bc.keys
    have hu := hu_of hr
    refine ⟨_, (pss_cons (ps_set (i := 2) scTable.nd rfl (.inl rfl) (pe_mt0 mWord hr (by omega) (pv 0)))
      (pss_cons (ps_if (PW.pt (pw_or (pt_cmpR op_notIn_seq (pv 2) (pe_cval (pe_glob (v := .ref BK) rfl Bc.gl rfl)) rfl) (pw_or (pt_cmpR op_eq (pe_callB call_len_seq (by rfl) T.len PySem.boot_len (pa_cons (pv 1) pa_nil)) (pe_cval (pe_glob (v := .ref BK) rfl Bc.gl rfl)) (nomark _)) (pw_or1 (pt_cmpR op_eq (pe_fld (pv 0) rfl) (pe_cval (pe_glob (v := .ref BK) rfl Bc.gl rfl)) (nomark _))))))
      (pss_one (ps_expr (pe_mtS0 mRefuse (takes_of rfl rfl rfl rfl) hr (by omega) (pv 0))))
      pss_nil)
      (pss_cons (ps_fldaug (pv 0) pe_int in_add)
      (pss_cons (ps_dput hu (pe_fld (pv 0) rfl) (pv 1) (pv 2) rfl)
      (pss_cons (ps_fldaug (pv 0) pe_int in_add)
      (pss_cons (ps_expr (pe_mtS mTake (takes_of rfl rfl rfl rfl) hr (by omega) (pv 0) (pa_cons pe_str pa_nil)))
      (pss_cons (ps_set (i := 3) scTable.nd rfl (.inl rfl) pe_int)
      (pss_cons (ps_while (passes_of rfl) (PW.pt (pw_or (pt_cmpR op_eq (pv 3) pe_int (nomark _)) (pw_or1 (pt_cmpR op_eq (pe_mt0 mWord hr (by omega) (pv 0)) pe_str (nomark _)))))
      (pss_cons (ps_if (pt_cmpR op_eq (pv 3) (pe_cval (pe_glob (v := .ref BK) rfl Bc.gl rfl)) (nomark _))
        (pss_one (ps_expr (pe_mtS0 mRefuse (takes_of rfl rfl rfl rfl) hr (by omega) (pv 0))))
        pss_nil)
        (pss_cut (ps_if (pt_cmpR op_gt (pv 3) pe_int (nomark _))
        (pss_one (ps_expr (pe_mtS mTake (takes_of rfl rfl rfl rfl) hr (by omega) (pv 0) (pa_cons pe_str pa_nil))))
        pss_nil)
        (pss_cons (ps_expr (pe_mtS mRE (takes_of rfl rfl rfl rfl) hr (Nat.le_refl _) (pv 0) (pa_cons (pv 1) pa_nil)))
        (pss_one (ps_aug (i := 3) scTable.nd rfl (.inl rfl) pe_int ip_add))))))
      (pss_one (ps_expr (pe_mtS mTake (takes_of rfl rfl rfl rfl) hr (by omega) (pv 0) (pa_cons pe_str pa_nil)))))))))))), ?_⟩
    obtain ⟨dx, ob⟩ := rd.ob
    refine ⟨_, rfl, r, dx, _, rfl, ob, rl_no _ _ _ (by decide +kernel), r, Fa, D, s, rfl, rd, ?_⟩
    have bad : (modes.contains s.word = false ∨ s.nt = 6) → ∀ d, H d = none → E (.ref B) (some d) (upd H d (.xd [("at", .int (s.pos : Nat))])) := fun hc d hd => fin.2 _ (by rw [rdTable, if_pos hc]) d _ hd upd_same (But.new hd)
    refine ⟨_, rfl, BK, mc, _, _, rfl, Bc.rd, cm, ma, _, rfl, .inr (hm H), rfl, L2.flat_strs modes, _, rfl, ?_⟩
    show if (!inV (.str s.word) (modes.map V.str)) = true then _ else _
    rw [inV_str]
    cases hmo : modes.contains s.word with
    | false => exact iteT ⟨_, rfl, r, dx, _, rfl, ob, rl_no _ _ _ (by decide +kernel), r, Fa, D, s, rfl, rd, bad (.inl hmo)⟩
    | true =>
      refine iteF ⟨_, rfl, pl, _, rfl, .inr (.inl (.inl hpl)), BK, mc, _, _, rfl, Bc.rd, cl, rfl, _, rfl, ?_⟩
      rw [decide_eq_false (fun q => by
        injection q with q
        rw [List.length_map] at q
        omega)]
      refine iteF ⟨_, rfl, r, R, dx, _, _, rfl, ob, Rc.cl, Rc.n4, rl_many_tables _ _ _, BK, mc, _, _, rfl, Bc.rd, ct, rfl, _, rfl, ?_⟩
      by_cases h6 : s.nt = 6
      · rw [decide_eq_true (by rw [h6]; rfl)]
        exact iteT ⟨_, rfl, r, dx, _, rfl, ob, rl_no _ _ _ (by decide +kernel), r, Fa, D, s, rfl, rd, bad (.inr h6)⟩
      rw [decide_eq_false (fun q => h6 (by injection q with q; omega))]
      refine iteF ?_
      have eT : rdTable (n + 1) place s = (rdTake "{" { s.step with nt := s.nt + 1, marks := putK s.marks place (.str s.word) }).bind fun s2 => pend (rdEntry (rdTable n) place) 0 s2 := by
        rw [rdTable, if_neg (by rw [hmo]; simp [h6])]
        rfl
      rw [eT] at fin
      have npl : ∀ {H' : Hp} {s' : Rd}, RdAt R H' r Fa D s' → H' pl = some (.tup (place.map kV)) → ¬ (pl = r ∨ pl = D) := fun {H' s'} rd' hp e => by
        rcases e with e | e
        · obtain ⟨dz, oz⟩ := rd'.ob
          rw [e, oz] at hp
          cases hp
        · rw [e, rd'.ma] at hp
          cases hp
      -- many_tables += 1
      refine ⟨_, rfl, r, R, dx, _, _, rfl, ob, Rc.cl, Rc.n4, rl_many_tables _ _ _, _, _, rfl, rfl, dx, _, ob, rfs_len _ _ _, ?_⟩
      have ep1 : putF "many_tables" (.int ((s.nt : Int) + 1)) (rfs Fa D s) = rfs Fa D { s with nt := s.nt + 1 } := rp_many_tables Fa D s (s.nt + 1)
      have rd1 : RdAt R (upd H r (.ins R dx (putF "many_tables" (.int ((s.nt : Int) + 1)) (rfs Fa D s)))) r Fa D { s with nt := s.nt + 1 } := by
        rw [ep1]
        exact rd.set rfl rfl
      have b1 : But (fun x => x = r ∨ x = D) H (upd H r (.ins R dx (putF "many_tables" (.int ((s.nt : Int) + 1)) (rfs Fa D s)))) := But.at (.inl rfl)
      have hpl1 := b1 _ _ hpl (npl rd hpl)
      have fin1 := fin.shift b1 rd1
      show tSeq _ _ _ _ (upd H r (.ins R dx (putF "many_tables" (.int ((s.nt : Int) + 1)) (rfs Fa D s))))
      generalize upd H r (.ins R dx (putF "many_tables" (.int ((s.nt : Int) + 1)) (rfs Fa D s))) = H1 at rd1 b1 hpl1 fin1 ⊢
      -- marks[place] = mode
      obtain ⟨dx1, ob1⟩ := rd1.ob
      refine ⟨_, rfl, _, rfl, r, R, dx1, _, _, rfl, ob1, Rc.cl, Rc.n3, rl_marks _ _ _, _, rfl, D, _, rfl, DPut.t rd1.ma hpl1 (szl (by have a := ok.m; have b := ok.t; have c := ok.b; show s.marks.length ≤ 100000; omega)), ?_⟩
      have rd2 : RdAt R (upd H1 D (.dT (putK s.marks place (.str s.word)))) r Fa D { s with nt := s.nt + 1, marks := putK s.marks place (.str s.word) } :=
        rd1.put (s' := { s with nt := s.nt + 1, marks := putK s.marks place (.str s.word) }) rfl rfl
      have b2 : But (fun x => x = r ∨ x = D) H1 (upd H1 D (.dT (putK s.marks place (.str s.word)))) := But.at (.inr rfl)
      have hpl2 := b2 _ _ hpl1 (npl rd1 hpl1)
      have fin2 := fin1.shift b2 rd2
      show tSeq _ _ _ _ (upd H1 D (.dT (putK s.marks place (.str s.word))))
      generalize upd H1 D (.dT (putK s.marks place (.str s.word))) = H2 at rd2 b2 hpl2 fin2 ⊢
      -- next_at += 1
      obtain ⟨dx2, ob2⟩ := rd2.ob
      refine ⟨_, rfl, r, R, dx2, _, _, rfl, ob2, Rc.cl, Rc.n2, rl_next_at _ _ _, _, _, rfl, rfl, dx2, _, ob2, rfs_len _ _ _, ?_⟩
      have ep3 := rp_next_at Fa D { s with nt := s.nt + 1, marks := putK s.marks place (.str s.word) } (s.at_ + 1)
      have rd3 : RdAt R (upd H2 r (.ins R dx2 (putF "next_at" (.int ((s.at_ : Int) + 1)) (rfs Fa D { s with nt := s.nt + 1, marks := putK s.marks place (.str s.word) })))) r Fa D { s.step with nt := s.nt + 1, marks := putK s.marks place (.str s.word) } := by
        rw [show ((s.at_ : Int) + 1) = ((s.at_ + 1 : Nat) : Int) from rfl, ep3]
        exact rd2.set rfl rfl
      have b3 : But (fun x => x = r ∨ x = D) H2 (upd H2 r (.ins R dx2 (putF "next_at" (.int ((s.at_ : Int) + 1)) (rfs Fa D { s with nt := s.nt + 1, marks := putK s.marks place (.str s.word) })))) := But.at (.inl rfl)
      have hpl3 := b3 _ _ hpl2 (npl rd2 hpl2)
      have fin3 := fin2.shift b3 rd3
      show tSeq _ _ _ _ (upd H2 r (.ins R dx2 (putF "next_at" (.int ((s.at_ : Int) + 1)) (rfs Fa D { s with nt := s.nt + 1, marks := putK s.marks place (.str s.word) }))))
      generalize upd H2 r (.ins R dx2 (putF "next_at" (.int ((s.at_ : Int) + 1)) (rfs Fa D { s with nt := s.nt + 1, marks := putK s.marks place (.str s.word) }))) = H3 at rd3 b3 hpl3 fin3 ⊢
      -- take('{')
      obtain ⟨dx3, ob3⟩ := rd3.ob
      refine ⟨_, rfl, r, dx3, _, rfl, ob3, rl_no _ _ _ (by decide +kernel), r, Fa, D, _, "{", rfl, rd3, fun s4 e4 H4 rd4 b4 => ?_, fin3.err⟩
      have ok4 : s4.Ok := rdTake_ok e4 ⟨by have a := ok.m; have c := putK_len s.marks place (.str s.word); show (putK _ _ _).length ≤ s.nt + 1 + s.nb; omega, by have a := ok.t; show s.nt + 1 ≤ 6; omega, ok.b, ok.w⟩
      have fin4 := fin3.rest e4 b4 rd4
      have hpl4 := b4 _ _ hpl3 (npl rd3 hpl3)
      have okR : ∀ {s s' : Rd}, rdEntry (rdTable n) place s = .ok s' → s.Ok → s'.Ok := fun {s s'} h o => rdEntry_ok (fun pl s s' h o => rdTable_ok h o) h o
      -- the entries
      refine ⟨fun m' σ H5 => ∃ (m : Nat) (s5 : Rd), m' = 4 - m ∧ m ≤ 3 ∧ σ = [some (.ref r), some (.ref pl), some (.str s.word), some (.int m)] ∧ RdAt R H5 r Fa D s5 ∧ H5 pl = some (.tup (place.map kV)) ∧ s5.Ok ∧ RdEnd R B r Fa D (pend (rdEntry (rdTable n) place) m s5) H5 Q E,
        ⟨_, 0, s4, rfl, by decide, rfl, rd4, hpl4, ok4, fin4⟩, ?_⟩
      rintro m' σ H5 ⟨m, s5, rfl, hm3, rfl, rd5, hpl5, ok5, fin5⟩
      obtain ⟨dx5, ob5⟩ := rd5.ob
      refine ⟨_, rfl, rfl, _, rfl, ?_⟩
      cases m with
      | zero =>
        rw [decide_eq_true (show V.int ((0 : Nat) : Int) = V.int 0 from rfl)]
        refine iteT ⟨_, fun _ _ h => h, ?_⟩
        refine ⟨_, rfl, BK, mc, _, _, rfl, Bc.rd, ck, rfl, _, rfl, ?_⟩
        rw [decide_eq_false (fun q => by injection q with q; omega)]
        refine iteF ?_
        refine ⟨fun σ H6 => σ = [some (.ref r), some (.ref pl), some (.str s.word), some (.int (0 : Nat))] ∧ H6 = H5, ?_, ?_⟩
        · exact ⟨_, rfl, _, _, rfl, rfl, _, rfl, iteF ⟨rfl, rfl⟩⟩
        · rintro σ H6 ⟨rfl, rfl⟩
          refine ⟨_, rfl, r, dx5, _, rfl, ob5, rl_no _ _ _ (by decide +kernel), _, rfl, r, Fa, D, pl, place, s5, rfl, rd5, hpl5, by omega, ok5, fun s7 e7 H7 rd7 b7 => ?_, fin5.err⟩
          exact ⟨_, rfl, _, _, rfl, rfl, _, by omega, 1, s7, rfl, by decide, rfl, rd7, b7 _ _ hpl5 (npl rd5 hpl5), okR e7 ok5, fin5.rest e7 b7 rd7⟩
      | succ m =>
        rw [decide_eq_false (fun q => by injection q with q; omega)]
        refine iteF ⟨_, rfl, r, dx5, _, rfl, ob5, rl_no _ _ _ (by decide +kernel), r, Fa, D, s5, rfl, rd5, rfl, _, rfl, ?_⟩
        by_cases hw : s5.word = ","
        · rw [decide_eq_true (by rw [hw])]
          refine iteT ⟨_, fun _ _ h => h, ?_⟩
          refine ⟨_, rfl, BK, mc, _, _, rfl, Bc.rd, ck, rfl, _, rfl, ?_⟩
          by_cases h3 : m = 2
          · subst h3
            rw [decide_eq_true (show V.int ((2 + 1 : Nat) : Int) = V.int 3 from rfl)]
            refine iteT ⟨_, rfl, r, dx5, _, rfl, ob5, rl_no _ _ _ (by decide +kernel), r, Fa, D, s5, rfl, rd5, fun d hd => ?_⟩
            refine fin5.2 s5.pos ?_ d _ hd upd_same (But.new hd)
            show (rdMore _ 0 s5).bind _ = _
            rw [rdMore, if_pos hw]
            rfl
          · rw [decide_eq_false (fun q => by injection q with q; omega)]
            refine iteF ?_
            have e2 : 2 - m = (1 - m) + 1 := by omega
            have eP : pend (rdEntry (rdTable n) place) (m + 1) s5 = (rdEntry (rdTable n) place s5.step).bind fun s3 => (rdMore (rdEntry (rdTable n) place) (1 - m) s3).bind (rdTake "}") := by
              show (rdMore _ (2 - m) s5).bind _ = _
              rw [e2, rdMore, if_pos hw]
              cases rdEntry (rdTable n) place s5.step <;> rfl
            rw [eP] at fin5
            refine ⟨fun σ H6 => σ = [some (.ref r), some (.ref pl), some (.str s.word), some (.int ((m + 1 : Nat) : Int))] ∧ RdAt R H6 r Fa D s5.step ∧ But (fun x => x = r ∨ x = D) H5 H6, ?_, ?_⟩
            · refine ⟨_, rfl, _, _, rfl, rfl, _, rfl, ?_⟩
              rw [decide_eq_true (by omega)]
              refine iteT ⟨_, rfl, r, dx5, _, rfl, ob5, rl_no _ _ _ (by decide +kernel), r, Fa, D, s5, ",", rfl, rd5, fun s6 e6 H6 rd6 b6 => ?_, fun p e => ?_⟩
              · have : s5.step = s6 := by
                  unfold rdTake at e6
                  rw [if_pos hw] at e6
                  exact Except.ok.inj e6
                rw [← this] at rd6
                exact ⟨rfl, rd6, b6⟩
              · unfold rdTake at e
                rw [if_pos hw] at e
                cases e
            · rintro σ H6 ⟨rfl, rd6, b6⟩
              have fin6 := fin5.shift b6 rd6
              have hpl6 := b6 _ _ hpl5 (npl rd5 hpl5)
              have ok6 : s5.step.Ok := ⟨ok5.m, ok5.t, ok5.b, ok5.w⟩
              obtain ⟨dx6, ob6⟩ := rd6.ob
              refine ⟨_, rfl, r, dx6, _, rfl, ob6, rl_no _ _ _ (by decide +kernel), _, rfl, r, Fa, D, pl, place, s5.step, rfl, rd6, hpl6, by omega, ok6, fun s7 e7 H7 rd7 b7 => ?_, fin6.err⟩
              refine ⟨_, rfl, _, _, rfl, rfl, _, by omega, m + 2, s7, rfl, by omega, rfl, rd7, b7 _ _ hpl6 (npl rd6 hpl6), okR e7 ok6, ?_⟩
              have e3 : 2 - (m + 1) = 1 - m := by omega
              show RdEnd R B r Fa D ((rdMore _ (2 - (m + 1)) s7).bind _) H7 Q E
              rw [e3]
              exact fin6.rest e7 b7 rd7
        · rw [decide_eq_false (fun q => hw (by injection q))]
          refine iteF ?_
          have eP : pend (rdEntry (rdTable n) place) (m + 1) s5 = rdTake "}" s5 := by
            show (rdMore _ (2 - m) s5).bind _ = _
            cases h2 : 2 - m with
            | zero => rw [rdMore, if_neg hw]; rfl
            | succ q => rw [rdMore, if_neg hw]; rfl
          rw [eP] at fin5
          exact ⟨_, rfl, r, dx5, _, rfl, ob5, rl_no _ _ _ (by decide +kernel), r, Fa, D, s5, "}", rfl, rd5, fin5.1, fin5.2⟩
end
end K03

set_option Elab.async false
set_option linter.all false
set_option maxRecDepth 100000
set_option maxHeartbeats 4000000
set_option pp.maxSteps 300
namespace K03
open PySem L2 L2.G42
abbrev sWhole : Stmt := inClass (top 15) 4
section
variable {P : Program} {w : World} {K : PySem.W.Frag} {mg : Str → Option Value} {base : Heap} {R B BK : Addr} {mc : Value}
theorem scWhole : FnScope ["self"] ["self"] (defScope sWhole) := ⟨rfl, rfl, rfl, by decide +kernel, rfl, by decide +kernel, by decide +kernel⟩
theorem ok_whole {k : Nat} {f : Addr} {fd : FuncData} (F : Fun K "read_whole" "Reader.read_whole" sWhole f fd) (T : Bn mg) (Rc : RdC K R) (mRefuse : MtX P w K mg base 3 R "refuse" (spRefuse R B) []) (h3 : 3 ≤ k) (mRT : MtX P w K mg base k R "read_table" (spRT R B 4) []) :
    FnOk P w K mg base (L2.CX P w) (k + 1) f fd ["self"] (spRW R B) := by
  refine F.okX scWhole (fun vs H Q E h => ?_) (fun cdv A outer s H vs Q E hr h => ?_)
  · obtain ⟨r, Fa, D, s, rfl, _⟩ := h
    rfl
  · obtain ⟨r, Fa, D, s, rfl, rd, ok, fin⟩ := h
    refine ⟨_, (pss_cons (ps_expr (pe_mtS mRT (takes_of rfl rfl rfl rfl) hr (Nat.le_refl _) (pv 0) (pa_cons (pe_tup pa_nil) pa_nil)))
      (pss_one (ps_if (pt_cmpR op_lt (pe_fld (pv 0) rfl) (pe_callB call_len_seq (by rfl) T.len PySem.boot_len (pa_cons (pe_fld (pv 0) rfl) pa_nil)) (nomark _))
      (pss_one (ps_expr (pe_mtS0 mRefuse (takes_of rfl rfl rfl rfl) hr (by omega) (pv 0))))
      pss_nil))), ?_⟩
    obtain ⟨dx, ob⟩ := rd.ob
    refine ⟨_, rfl, r, dx, _, rfl, ob, rl_no _ _ _ (by decide +kernel), szle (by simp), fun p hp => ?_⟩
    have g1 : But (fun _ => False) H (upd H p (.tup [])) := But.new hp
    have rd1 := rd.grow g1
    have fin1 := fin.shift (g1.mono fun _ h => h.elim) rd1
    unfold rdWhole at fin1
    refine ⟨r, Fa, D, p, [], s, rfl, rd1, upd_same, rfl, ok, fun s2 e2 H2 rd2 b2 => ?_, fin1.err⟩
    have fin2 := fin1.rest e2 b2 rd2
    obtain ⟨dx2, ob2⟩ := rd2.ob
    obtain ⟨rs, t1, t2, t3⟩ := id rd2.tk
    refine ⟨_, rfl, r, R, dx2, _, _, rfl, ob2, Rc.cl, Rc.n2, rl_next_at _ _ _, _, rfl, r, R, dx2, _, _, rfl, ob2, Rc.cl, Rc.n0, rl_tokens _ _ _, Fa, _, rfl, .inl (SqL.of t1), _, _, rfl, rfl, _, rfl, ?_⟩
    by_cases h : s2.at_ < s2.toks.length
    · rw [if_pos h] at fin2
      rw [decide_eq_true (by rw [List.length_map, t2]; omega)]
      refine iteT ⟨_, rfl, r, dx2, _, rfl, ob2, rl_no _ _ _ (by decide +kernel), r, Fa, D, s2, rfl, rd2, fun d hd => fin2.2 _ rfl d _ hd upd_same (But.new hd)⟩
    · rw [if_neg h] at fin2
      rw [decide_eq_false (by rw [List.length_map, t2]; omega)]
      exact iteF (fin2.1 _ rfl _ rd2 But.refl)
end
end K03

set_option Elab.async false
set_option linter.all false
set_option maxRecDepth 100000
set_option maxHeartbeats 4000000
set_option pp.maxSteps 400
namespace K03
open PySem L2 L2.G42
open Evl (pss_cut)
open PyProof.Rows (boot_isinstance boot_int boot_bool boot_list boot_set boot_abs boot_enumerate boot_tuple)
abbrev sKu : Stmt := top 13
abbrev NKu : List Str := ["marks", "place", "longer", "one"]
theorem scKu : FnScope NKu ["marks", "place"] (defScope sKu) := ⟨rfl, rfl, rfl, by decide +kernel, rfl, by decide +kernel, by decide +kernel⟩
section
variable {P : Program} {w : World} {K : PySem.W.Frag} {mg : Str → Option Value} {base : Heap}
theorem cut_init (xs : List V) (v : V) : cutV (xs ++ [v]) none (some (-1)) = xs := by
  unfold cutV HT.sIx
  simp
  rw [show (-1 + ((xs.length : Int) + 1)).toNat = xs.length by omega, List.take_left]
theorem cut_not (xs : List V) (v : V) : ¬ HT.sIx (xs ++ [v]).length (xs ++ [v]).length (some (-1)) = (xs ++ [v]).length := by
  unfold HT.sIx
  simp
  omega
theorem ok_ku {f : Addr} {fd : FuncData} (F : Fun K "keys_under" "keys_under" sKu f fd) (T : Bn mg) : FnOk P w K mg base CX0 1 f fd ["marks", "place"] (spKu K) := by
  refine F.ok scKu (fun vs H Q E h => ?_) (fun cdv A outer s H vs Q E hr h => ?_)
  · obtain ⟨D, pl, ms, p, rfl, _⟩ := h
    rfl
  · obtain ⟨D, pl, ms, p, rfl, hD, hpl, so, sop, few, k⟩ := h
    have hu := hr.units
    refine ⟨_, (pss_cons (ps_set (i := 2) scKu.nd rfl (.inr rfl) (pe_op op_add (pe_callB call_len_seq (by rfl) T.len PySem.boot_len (pa_cons (pv 1) pa_nil)) pe_int))
      (pss_one (ps_ret (pe_callTy call_tuple_of (by rfl) T.tuple boot_tuple (pa_cons (pe_lock (pe_lc (own := [("one", 3)]) (g := gName 3) (tt := tAnd (tTest (tOp _ _ _)) (tTest (tOp (rEqD K) _ _))) rfl scKu.nd (pi_keys (pv 0)) (blkOk_by (own := [("one", 3)]) (N := NKu) (sc := defScope sKu) (by decide +kernel))
    (fun _ _ _ _ _ => (pg_name (i := 3) scKu.nd rfl (.inl rfl))) (fun _ _ _ _ _ => (pts_one (PW.pt (pw_and (pt_cmpR op_eq (pe_callB (kLen (K := K) rfl) (by rfl) T.len PySem.boot_len (pa_cons (pv 3) pa_nil)) (pv 2) (nomark _)) (pw_and1 (pt_cmpR (kEqD (K := K) rfl hu) (pe_slice (kSlT (K := K) rfl) (pv 3) po_none (po_some (pe_un un_neg pe_int))) (pv 1) (nomark _))))))) (fun _ _ _ _ _ => (pe_ix (kIxT (K := K) rfl) (pv 3) (pe_un un_neg pe_int) (fun _ _ => rfl))))) pa_nil))))), ?_⟩
    refine ⟨_, rfl, pl, _, rfl, .inr hpl, _, _, rfl, rfl, ?_⟩
    refine ⟨D, _, hD, trivial, fun od => ?_⟩
    refine ⟨_, rfl, D, od, rfl, .inr ⟨kmk ms, upd_same, fun L hL => ?_⟩⟩
    have nLD : L ≠ D := fun e => by rw [e, upd_same] at hL; cases hL
    have hL0 : H L = none := by rw [upd_ne nLD] at hL; exact hL
    refine lc_it walk_keysT (fun i H1 => H1 L = some (.lst ((ku (ms.take i) p).map V.str)) ∧ H1 D = some (.frz od (.dT (kmk ms))) ∧ But (· = D) H H1)
      ⟨upd_same, by rw [upd_ne nLD.symm, upd_same], (But.at (S := (· = D)) rfl).fresh hL0⟩ (fun i H1 hi h => h.2.1) (fun i x H1 H2 hi h y => ?_) (fun H1 h => ?_)
    · obtain ⟨h1, h2, h3⟩ := h
      obtain ⟨rfl, kk, v, q, e1, rfl, hq⟩ := y
      unfold kmk at e1
      rw [List.getElem?_map, Option.map_eq_some_iff] at e1
      obtain ⟨r, er, e2⟩ := e1
      injection e2 with e2 e3
      subst e2
      rw [kV_kp] at hq
      have hp1 : SqT K H2 pl (p.map V.str) := SqT.butD hpl hD h3
      have stp : ∀ b : Bool, isChild p r.1 = b → ku (ms.take (i + 1)) p = ku (ms.take i) p ++ if b = true then [lastS r.1] else [] := fun b hb => by
        unfold ku
        rw [filter_take _ _ er, List.map_append]
        subst hb
        cases isChild p r.1 <;> rfl
      have le : (ku (ms.take i) p).length ≤ 1000 := by
        unfold ku
        rw [List.length_map]
        exact Nat.le_trans (List.length_filter_le _ _) (by rw [List.length_take]; omega)
      refine ⟨rfl, _, rfl, q, _, rfl, .inr (.inl (.inl hq)), _, rfl, rfl, _, rfl, ?_⟩
      by_cases hc : r.1.length = p.length + 1
      · rw [decide_eq_true (by rw [List.length_map, List.length_map, hc]; rfl)]
        obtain ⟨z, zl, ez⟩ : ∃ z zl, r.1 = z ++ [zl] := by
          have hne : r.1 ≠ [] := fun e => by rw [e] at hc; cases hc
          exact ⟨r.1.dropLast, r.1.getLast hne, (List.dropLast_concat_getLast hne).symm⟩
        have ev : r.1.map V.str = z.map V.str ++ [V.str zl] := by rw [ez, List.map_append]; rfl
        rw [ev] at hq
        refine iteT ⟨_, rfl, _, rfl, _, rfl, q, _, rfl, .inl (.inl hq), fun hw => absurd hw.2 (cut_not _ _), fun _ c hcn => ?_⟩
        rw [cut_init]
        refine ⟨_, rfl, .tuple (dS z), .tuple (dS p), dpT (.inl (.inl upd_same)), dpT (SqT.grow hp1 (But.new hcn)), shapedT ?_, shapedT sop, _, rfl, ?_⟩
        · intro y hy
          exact so r (List.mem_of_getElem? er) y (by rw [ez]; exact List.mem_append_left _ hy)
        rw [eqv_tup]
        have nq : c ≠ q := fun e => by rw [e, hq] at hcn; cases hcn
        have ncL : c ≠ L := fun e => by rw [e, h1] at hcn; cases hcn
        have ncD : c ≠ D := fun e => by rw [e, h2] at hcn; cases hcn
        have isC : isChild p r.1 = decide (z = p) := by
          unfold isChild
          rw [decide_eq_true hc, ez, List.dropLast_concat]
          rfl
        have b3 : But (· = D) H (upd H2 c (.tup (z.map V.str))) := h3.trans (But.new hcn)
        by_cases hz : z = p
        · rw [decide_eq_true hz]
          refine iteT ⟨_, rfl, _, rfl, q, _, _, _, rfl, rfl, .inl (.inl (by rw [upd_ne nq.symm]; exact hq)), atI_last _ _, _, by rw [upd_ne ncL.symm]; exact h1, szl (by rw [List.length_map]; omega), ?_⟩
          refine ⟨?_, by rw [upd_ne nLD.symm, upd_ne ncD.symm]; exact h2, b3.fresh hL0⟩
          rw [upd_same, stp true (isC.trans (decide_eq_true hz)), if_pos rfl, ez, lastS_app, List.map_append]
          rfl
        · rw [decide_eq_false hz]
          refine iteF ⟨?_, by rw [upd_ne ncD.symm]; exact h2, b3⟩
          rw [upd_ne ncL.symm, stp false (isC.trans (decide_eq_false hz)), if_neg (by decide), List.append_nil]
          exact h1
      · rw [decide_eq_false (by rw [List.length_map, List.length_map]; intro e; injection e with e; omega)]
        refine iteF (iteF ⟨?_, h2, h3⟩)
        rw [stp false (isChild_len hc), if_neg (by decide), List.append_nil]
        exact h1
    · obtain ⟨h1, h2, h3⟩ := h
      rw [List.take_of_length_le (by simp [kmk])] at h1
      refine ⟨h2, L, _, rfl, .inl ⟨SqL.of (by rw [upd_ne nLD]; exact h1), fun t ht => ?_⟩⟩
      have g : But (fun _ => False) H (upd H1 D (.dT (kmk ms))) := fun b o hb _ => by
        by_cases e : b = D
        · subst e; rw [upd_same, ← hD, hb]
        · rw [upd_ne e]; exact h3 b o hb e
      exact k t _ (g.free ht) upd_same (g.trans (But.new ht))
end
end K03

set_option Elab.async false
set_option linter.all false
set_option maxRecDepth 100000
set_option maxHeartbeats 4000000
set_option pp.maxSteps 400
namespace K03
open PySem L2 L2.G42
open Evl (pss_cut)
open PyProof.Rows (boot_isinstance boot_int boot_bool boot_list boot_set boot_abs boot_enumerate boot_tuple)
abbrev sWr : Stmt := top 14
abbrev NWr : List Str := ["marks", "place", "has_modes", "mark", "parts", "key"]
theorem scWr : FnScope NWr ["marks", "place", "has_modes"] (defScope sWr) := ⟨rfl, rfl, rfl, by decide +kernel, rfl, by decide +kernel, by decide +kernel⟩
section
variable {P : Program} {w : World} {K : PySem.W.Frag} {mg : Str → Option Value} {base : Heap}
theorem ok_wr0 {f : Addr} {fd : FuncData} (F : Fun K "written" "written" sWr f fd) (N : BkN K mg) : FnOk P w K mg base CX0 1 f fd ["marks", "place", "has_modes"] (spWr K 0) := by
  refine F.ok scWr (fun vs H Q E h => ?_) (fun cdv A outer s H vs Q E hr h => ?_)
  · obtain ⟨D, pl, b, n, t, r, rfl, _⟩ := h
    rfl
  · obtain ⟨D, pl, b, n, t, r, rfl, mk, hr1, hk, hpl, k⟩ := h
    have hu := hu_of hr
    obtain ⟨ka, gk, hkd⟩ := N.kinds
    refine ⟨_, pss_cons (ps_set (i := 3) scWr.nd rfl (.inl rfl) (pe_dgT (K := K) rfl hu (pv 0) (pv 1) (fun _ _ => rfl)))
      (pss_cons (ps_if (pt_cmpR op_in_seq (pv 3) (pe_glob (v := .ref ka) rfl gk rfl) rfl) (pss_one (ps_ret (pe_ifExp (pt_val (pv 2)) (pv 3) pe_str))) pss_nil)
      (pss_cons ps_never pss_never)), ?_⟩
    have hv := val_row mk.ok hr1
    refine ⟨_, rfl, _, rfl, D, pl, _, kp r.pl, _, rfl, rfl, .inl mk.at_, by rw [kV_kp]; exact hpl, hv, ?_⟩
    refine ⟨_, rfl, ka, _, rfl, .inr (hkd H), rfl, rfl, _, rfl, ?_⟩
    rcases row_cases r with ⟨kd, e⟩ | ⟨n', m, es, e⟩
    · have hok := (Tr.rows_ok n t mk.ok [] r hr1).1
      have hm : Tr.mark r.k r.t = kd := by rw [e]; exact Tr.mark_bag
      have hin : inV (.str (Tr.mark r.k r.t)) [V.str "*", V.str "!"] = true := by
        have h1 := (Tr.rows_bag_mark r.k r.t hok).mpr (by rw [e]; rfl)
        rw [← inV_str] at h1
        exact h1
      rw [show (if false = true then !inV (.str (Tr.mark r.k r.t)) [V.str "*", V.str "!"] else inV (.str (Tr.mark r.k r.t)) [V.str "*", V.str "!"]) = true from hin]
      refine iteT ⟨_, rfl, b, rfl, ?_⟩
      have kk := k H But.refl
      rw [e] at kk
      unfold shw at kk
      rw [show Tr.text r.k (.inl kd) = kd from Tr.text_bag, show Tr.form r.k (.inl kd) = "*" from Tr.form_bag] at kk
      cases b with
      | true => exact iteT ⟨_, rfl, by rw [hm]; exact kk⟩
      | false => exact iteF kk
    · rw [e] at hk
      exact absurd hk (by show ¬ n' + 1 ≤ 0; omega)
theorem ok_wrS {j n0 : Nat} {f : Addr} {fd : FuncData} (F : Fun K "written" "written" sWr f fd) (N : BkN K mg) (cKu : Cl P w K mg base 1 "keys_under" (spKu K) []) (hj : 1 ≤ j) (cWr : Cl P w K mg base j "written" (spWr K n0) []) : FnOk P w K mg base CX0 (j + 1) f fd ["marks", "place", "has_modes"] (spWr K (n0 + 1)) := by
  refine F.ok scWr (fun vs H Q E h => ?_) (fun cdv A outer s H vs Q E hr h => ?_)
  · obtain ⟨D, pl, b, n, t, r, rfl, _⟩ := h
    rfl
  · obtain ⟨D, pl, b, n, t, r, rfl, mk, hr1, hk, hpl, k⟩ := h
    have hu := hu_of hr
    obtain ⟨ka, gk, hkd⟩ := N.kinds
    refine ⟨_, pss_cons (ps_set (i := 3) scWr.nd rfl (.inl rfl) (pe_dgT (K := K) rfl hu (pv 0) (pv 1) (fun _ _ => rfl)))
      (pss_cons (ps_if (pt_cmpR op_in_seq (pv 3) (pe_glob (v := .ref ka) rfl gk rfl) rfl) (pss_one (ps_ret (pe_ifExp (pt_val (pv 2)) (pv 3) pe_str))) pss_nil)
      (pss_cons (ps_setLc (i := 4) (own := [("key", 5)]) (g := gName 5) (tt := tYes) rfl scWr.nd rfl rfl (sw_true rfl rfl rfl (by decide +kernel)) (pi_tup (pe_c cKu hr hj rfl (pa_cons (pv 0) (pa_cons (pv 1) pa_nil)))) (blkOk_by (own := [("key", 5)]) (N := NWr) (sc := defScope sWr) (by decide +kernel))
    (fun _ _ _ _ _ => (pg_name (i := 5) scWr.nd rfl (.inl rfl))) (fun _ _ _ _ _ => pts_nil) (fun _ _ _ _ _ => (pe_op op_add_str (pe_op op_add_str (pv 5) pe_str) (pe_c cWr hr (Nat.le_refl _) rfl (pa_cons (pv 0) (pa_cons (pe_op (kCatT (K := K) rfl) (pv 1) (pe_tup (pa_cons (pv 5) pa_nil))) (pa_cons (pv 2) pa_nil)))))))
      (pss_one (ps_ret (pe_op op_add_str (pe_op op_add_str (pe_op op_add_str (pe_ifExp (pt_val (pv 2)) (pv 3) pe_str) pe_str) (pe_join pe_str (pv 4))) pe_str))))), ?_⟩
    have hv := val_row mk.ok hr1
    refine ⟨_, rfl, _, rfl, D, pl, _, kp r.pl, _, rfl, rfl, .inl mk.at_, by rw [kV_kp]; exact hpl, hv, ?_⟩
    refine ⟨_, rfl, ka, _, rfl, .inr (hkd H), rfl, rfl, _, rfl, ?_⟩
    have hok := (Tr.rows_ok n t mk.ok [] r hr1).1
    rcases row_cases r with ⟨kd, e⟩ | ⟨n', m, es, e⟩
    · have hm : Tr.mark r.k r.t = kd := by rw [e]; exact Tr.mark_bag
      have hin : inV (.str (Tr.mark r.k r.t)) [V.str "*", V.str "!"] = true := by
        have h1 := (Tr.rows_bag_mark r.k r.t hok).mpr (by rw [e]; rfl)
        rw [← inV_str] at h1
        exact h1
      rw [show (if false = true then !inV (.str (Tr.mark r.k r.t)) [V.str "*", V.str "!"] else inV (.str (Tr.mark r.k r.t)) [V.str "*", V.str "!"]) = true from hin]
      refine iteT ⟨_, rfl, b, rfl, ?_⟩
      have kk := k H But.refl
      rw [e] at kk
      unfold shw at kk
      rw [show Tr.text r.k (.inl kd) = kd from Tr.text_bag, show Tr.form r.k (.inl kd) = "*" from Tr.form_bag] at kk
      cases b with
      | true => exact iteT ⟨_, rfl, by rw [hm]; exact kk⟩
      | false => exact iteF kk
    · have kr := Tr.ku_rows n t mk.ok [] r hr1
      have so := row_so mk hr1
      have hin := Tr.rows_in n t [] r hr1 n' m es e
      have hl := Tr.rows_len n t [] r hr1
      obtain ⟨rpl, rk, rt⟩ := r
      injection e with _ e1 e2
      subst e1
      have e2 := eq_of_heq e2
      subst e2
      have hk' : n' ≤ n0 := Nat.le_of_succ_le_succ hk
      have hnot : inV (.str m) [V.str "*", V.str "!"] = false := by
        have := Tr.kinds_not hok.1
        rw [← inV_str] at this
        exact this
      rw [show (if false = true then !inV (.str (Tr.mark (n' + 1) (Tr.tab m es))) [V.str "*", V.str "!"] else inV (.str (Tr.mark (n' + 1) (Tr.tab m es))) [V.str "*", V.str "!"]) = false from hnot]
      refine iteF ⟨_, rfl, _, rfl, D, pl, _, rpl, rfl, mk.at_, hpl, mk.so, so, by rw [Tr.marks_len]; exact mk.few, fun q H1 hq0 hq g1 => ?_⟩
      have kr' : ku (Tr.marks n [] t) rpl = es.map (·.1) := kr
      rw [kr', List.map_map] at hq
      have mk1 := mk.grow g1
      have hpl1 : SqT K H1 pl (rpl.map V.str) := SqT.grow hpl g1
      have few := mk.few
      have rlen : (Tr.rows (n' + 1) rpl (Tr.tab m es)).length ≤ 1000 := Nat.le_trans hl few
      have elen : ∀ e ∈ es, (Tr.rows n' (rpl ++ [e.1]) e.2).length ≤ 1000 ∧ e.1.length ≤ 8 ∧ (shw b n' e.2).length ≤ 27000 := fun e he => by
        have h1 := Tr.rows_len n t [] _ (hin e he)
        have h2 := shw_len (b := b) (hok.2.2.2 e he).2 (rpl ++ [e.1])
        have h1' : (Tr.rows n' (rpl ++ [e.1]) e.2).length ≤ (Tr.rows n [] t).length := h1
        exact ⟨by omega, (key_len (hok.2.2.2 e he).1).2, by omega⟩
      have plen : rpl.length ≤ 1000 := by
        have h1 := Tr.rows_lev n t [] _ hr1
        have h1' : rpl.length + (n' + 1) = 0 + n := h1
        have := mk.lv
        omega
      have eslen : es.length ≤ 1000 := by
        have := Tr.es_len (n := n') (m := m) (es := es) (p := rpl)
        omega
      refine ⟨q, rfl, ⟨_, .inl (.inl hq)⟩, fun L hL => ?_⟩
      refine lc_tup (K := K) (a := q) (xs := es.map (V.str ∘ fun e => e.1)) (fun i H2 => H2 L = some (.lst (((es.take i).map fun e => e.1 ++ ":" ++ shw b n' e.2).map V.str)) ∧ But (fun _ => False) H1 H2)
        ⟨upd_same, But.new hL⟩ (fun i H2 _ h => .inl (.inl (h.2 _ _ hq id))) (fun i x H2 hx h => ?_) (fun H2 h => ?_)
      · obtain ⟨h1, g2⟩ := h
        rw [List.getElem?_map, Option.map_eq_some_iff] at hx
        obtain ⟨e, ee, rfl⟩ := hx
        have he := List.mem_of_getElem? ee
        obtain ⟨l1, l2, l3⟩ := elen e he
        have c2 : (Str.ofString ":").length = 1 := by decide +kernel
        refine ⟨rfl, _, rfl, _, _, rfl, rfl, szle (by show e.1.length + (Str.ofString ":").length ≤ _; rw [c2]; omega), _, rfl, _, rfl, _, rfl, szle (by simp), fun c hc => ?_⟩
        have g3 : But (fun _ => False) H2 (upd H2 c (.tup [V.str e.1])) := But.new hc
        refine cat_place (SqT.grow hpl1 (g2.trans g3)) upd_same plen fun c2' H3 g34 hc3 => ?_
        have g24 := g3.trans g34
        refine ⟨_, rfl, D, c2', b, n, t, ⟨rpl ++ [e.1], n', e.2⟩, rfl, mk1.grow (g2.trans g24), hin e he, hk', .inl (.inl hc3), fun H4 g4 => ?_⟩
        have gg := g24.trans g4
        refine ⟨_, _, rfl, rfl, szle (by show (e.1 ++ Str.ofString ":").length + (shw b n' e.2).length ≤ _; rw [Tr.app_len, c2]; omega), _, gg _ _ h1 id, szl ?_, upd_same.trans ?_, (g2.trans gg).fresh hL⟩
        · rw [List.length_map, List.length_map, List.length_take]
          omega
        · rw [List.take_add_one, ee, List.map_append, List.map_append]
          rfl
      · obtain ⟨h1, g2⟩ := h
        rw [List.length_map, List.take_length] at h1
        have kk := k H2 (g1.trans g2)
        have sl := shw_len (b := b) hok rpl
        rw [shw_tab] at kk sl
        have c3 : (Str.ofString "{").length = 1 := by decide +kernel
        have c4 : (Str.ofString "}").length = 1 := by decide +kernel
        have jl : (((es.map fun e => e.1 ++ ":" ++ shw b n' e.2).map (·.length)).sum + (es.map fun e => e.1 ++ ":" ++ shw b n' e.2).length * (Str.ofString ",").length ≤ 16777216) := by
          have h2 := parts_len (b := b) hok rpl
          have c1 : (Str.ofString ",").length = 1 := by decide +kernel
          rw [c1, List.length_map]
          omega
        rw [Tr.app_len, Tr.app_len, Tr.app_len, c3, c4] at sl
        refine ⟨_, rfl, b, rfl, ?_⟩
        cases b with
        | true =>
          refine iteT ⟨_, rfl, _, _, rfl, rfl, ?_, ⟨_, rfl⟩, _, rfl, _, L, _, rfl, rfl, .inl (SqL.of h1), jl, _, _, rfl, rfl, ?_, _, _, rfl, rfl, ?_, kk⟩
          · refine szle ?_
            show m.length + (Str.ofString "{").length ≤ _
            have sl' : m.length + 1 + (Txt.join "," (es.map fun e => e.1 ++ ":" ++ shw true n' e.2)).length + 1 + 10 ≤ 27 * (Tr.rows (n' + 1) rpl (Tr.tab m es)).length := sl
            rw [c3]
            omega
          · refine szle ?_
            show (m ++ Str.ofString "{").length + (Txt.join "," (es.map fun e => e.1 ++ ":" ++ shw true n' e.2)).length ≤ _
            have sl' : m.length + 1 + (Txt.join "," (es.map fun e => e.1 ++ ":" ++ shw true n' e.2)).length + 1 + 10 ≤ 27 * (Tr.rows (n' + 1) rpl (Tr.tab m es)).length := sl
            rw [Tr.app_len, c3]
            omega
          · refine szle ?_
            show (m ++ Str.ofString "{" ++ Txt.join "," (es.map fun e => e.1 ++ ":" ++ shw true n' e.2)).length + (Str.ofString "}").length ≤ _
            have sl' : m.length + 1 + (Txt.join "," (es.map fun e => e.1 ++ ":" ++ shw true n' e.2)).length + 1 + 10 ≤ 27 * (Tr.rows (n' + 1) rpl (Tr.tab m es)).length := sl
            rw [Tr.app_len, Tr.app_len, c3, c4]
            omega
        | false =>
          refine iteF ⟨_, _, rfl, rfl, ?_, ⟨_, rfl⟩, _, rfl, _, L, _, rfl, rfl, .inl (SqL.of h1), jl, _, _, rfl, rfl, ?_, _, _, rfl, rfl, ?_, kk⟩
          · refine szle ?_
            show (Str.ofString "").length + (Str.ofString "{").length ≤ _
            decide +kernel
          · refine szle ?_
            show (Str.ofString "" ++ Str.ofString "{").length + (Txt.join "," (es.map fun e => e.1 ++ ":" ++ shw false n' e.2)).length ≤ _
            have sl' : (Str.ofString "").length + 1 + (Txt.join "," (es.map fun e => e.1 ++ ":" ++ shw false n' e.2)).length + 1 + 10 ≤ 27 * (Tr.rows (n' + 1) rpl (Tr.tab m es)).length := sl
            rw [Tr.app_len, c3]
            omega
          · refine szle ?_
            show (Str.ofString "" ++ Str.ofString "{" ++ Txt.join "," (es.map fun e => e.1 ++ ":" ++ shw false n' e.2)).length + (Str.ofString "}").length ≤ _
            have sl' : (Str.ofString "").length + 1 + (Txt.join "," (es.map fun e => e.1 ++ ":" ++ shw false n' e.2)).length + 1 + 10 ≤ 27 * (Tr.rows (n' + 1) rpl (Tr.tab m es)).length := sl
            rw [Tr.app_len, Tr.app_len, c3, c4]
            omega
end
end K03

set_option Elab.async false
set_option linter.all false
set_option maxRecDepth 100000
set_option maxHeartbeats 4000000
set_option pp.maxSteps 400
namespace K03
open PySem L2 L2.G42
open Evl (pss_cut)
open PyProof.Rows (boot_isinstance boot_int boot_bool boot_list boot_set boot_abs boot_enumerate boot_tuple)
abbrev sBInit : Stmt := inClass (top 16) 5
abbrev NBInit : List Str := ["self", "marks", "place"]
theorem scBInit : FnScope NBInit ["self", "marks"] (defScope sBInit) := ⟨rfl, rfl, rfl, by decide +kernel, rfl, by decide +kernel, by decide +kernel⟩
section
variable {P : Program} {w : World} {K : PySem.W.Frag} {mg : Str → Option Value} {base : Heap} {BK : Addr}
theorem ok_binit {f : Addr} {fd : FuncData} (F : Fun K "__init__" "Book.__init__" sBInit f fd) (T : Bn mg) (Bt : BkT K BK) : FnOk P w K mg base CX0 1 f fd ["self", "marks"] (spBInit BK) := by
  refine F.ok scBInit (fun vs H Q E h => ?_) (fun cdv A outer s H vs Q E hr h => ?_)
  · obtain ⟨b, dx, D0, ms, rfl, _⟩ := h
    rfl
  · obtain ⟨b, dx, D0, ms, rfl, hb, hD0, hd, few, ⟨q0, qr, e0, k0⟩, k⟩ := h
    have hu := hu_of hr
    have hu64 := hr.units
    refine ⟨_, pss_one (ps_fld (pv 0) (pe_dcT (own := [("place", 2)]) (g := gName 2) (tt := tYes) hu rfl scBInit.nd (pi_list (pe_callB (cr_sortTS hu64) (by rfl) T.sorted boot_sorted (pa_cons (pe_callTy (call_list_dT rfl) (by rfl) T.list boot_list (pa_cons (pv 1) pa_nil)) pa_nil))) (blkOk_by (own := [("place", 2)]) (N := NBInit) (sc := defScope sBInit) (by decide +kernel))
      (fun _ _ _ _ _ => (pg_name (i := 2) scBInit.nd rfl (.inl rfl))) (fun _ _ _ _ _ => pts_nil) (fun _ _ _ _ _ => pv 2) (fun _ _ _ _ _ => pe_dget hu (pv 1) (pv 2) (fun _ _ => rfl))) rfl), ?_⟩
    refine ⟨_, rfl, D0, _, rfl, .inl hD0, fun l bs hl kz => ?_⟩
    obtain ⟨lz, hz⟩ := keys_zip kz
    have g1 : But (fun _ => False) H (upd H l (.lst (bs.map V.ref))) := But.new hl
    have hdz : DiffBy (fun e : Addr × (List Str × Str) => e.2.1) (bs.zip ms) := by
      have : DiffBy (·.1) ((bs.zip ms).map Prod.snd) := by rw [zip_snd lz]; exact hd
      exact (List.pairwise_map (f := Prod.snd) (R := fun a b : List Str × Str => a.1 ≠ b.1)).mp this
    have vz : (bs.zip ms).map (fun e => V.ref e.1) = bs.map V.ref := by
      rw [show (fun e : Addr × (List Str × Str) => V.ref e.1) = V.ref ∘ Prod.fst from rfl, ← List.map_map, zip_fst lz]
    refine ⟨Addr × (List Str × Str), fun e => .ref e.1, fun e => e.2.1, bs.zip ms, l, rfl, SqL.of ?_, fun e he => ⟨e.1, rfl, g1 _ _ (hz e he) id⟩, hdz, ?_, fun p hp => ?_⟩
    · rw [upd_same, vz]
    · subst e0
      cases bs with
      | nil => cases lz
      | cons b0 br => exact ⟨(b0, q0), br.zip qr, rfl, k0⟩
    have g2 : But (fun _ => False) H (upd (upd H l (.lst (bs.map V.ref))) p (.lst ((srtBy lexS (fun e : Addr × (List Str × Str) => e.2.1) (bs.zip ms)).map fun e => V.ref e.1))) := g1.trans (But.new hp)
    have hp2 : (upd (upd H l (.lst (bs.map V.ref))) p (.lst ((srtBy lexS (fun e : Addr × (List Str × Str) => e.2.1) (bs.zip ms)).map fun e => V.ref e.1))) p = some (.lst ((srtBy lexS (fun e : Addr × (List Str × Str) => e.2.1) (bs.zip ms)).map fun e => V.ref e.1)) := upd_same
    generalize upd (upd H l (.lst (bs.map V.ref))) p (.lst ((srtBy lexS (fun e : Addr × (List Str × Str) => e.2.1) (bs.zip ms)).map fun e => V.ref e.1)) = H2 at g2 hp2 ⊢
    have hS : (srtBy lexS (fun e : Addr × (List Str × Str) => e.2.1) (bs.zip ms)).map Prod.snd = srtBy lexS (·.1) ms := by
      have := srtBy_map tot_lexS (k := fun e : Addr × (List Str × Str) => e.2.1) (k2 := fun q : List Str × Str => q.1) (f := Prod.snd) (fun _ => rfl) hdz
      rw [zip_snd lz] at this
      exact this.symm
    have hSm : ∀ e ∈ srtBy lexS (fun e : Addr × (List Str × Str) => e.2.1) (bs.zip ms), e ∈ bs.zip ms := fun e he => srtBy_mem.mp he
    have hSl : (srtBy lexS (fun e : Addr × (List Str × Str) => e.2.1) (bs.zip ms)).length ≤ 1000 := by
      rw [srtBy_len, List.length_zip]
      omega
    have hSd : DiffBy (fun e : Addr × (List Str × Str) => e.2.1) (srtBy lexS (fun e : Addr × (List Str × Str) => e.2.1) (bs.zip ms)) := hdz.perm (srtBy_perm _)
    generalize srtBy lexS (fun e : Addr × (List Str × Str) => e.2.1) (bs.zip ms) = S at hp2 hS hSm hSd hSl ⊢
    refine ⟨p, rfl, ⟨_, SqL.of hp2⟩, fun N hN => ?_⟩
    refine dcT_it (walk_list (xs := S.map fun e => V.ref e.1)) (fun i H3 => H3 N = some (.dT (kmk ((S.take i).map Prod.snd))) ∧ But (fun _ => False) H2 H3)
      ⟨upd_same, But.new hN⟩ (fun i H3 _ h => SqL.of (h.2 _ _ hp2 id)) (fun i x H3 H4 hi h y => ?_) (fun H3 h => ?_)
    · obtain ⟨h1, g3⟩ := h
      obtain ⟨rfl, hx⟩ := y
      rw [List.getElem?_map, Option.map_eq_some_iff] at hx
      obtain ⟨e, ee, rfl⟩ := hx
      have he := hSm e (List.mem_of_getElem? ee)
      have gg := g2.trans g3
      have hv : valV (kmk ms) (kp e.2.1) = some (.str e.2.2) := val_mem hd (by
        have : e.2 ∈ (bs.zip ms).map Prod.snd := List.mem_map.mpr ⟨e, he, rfl⟩
        rw [zip_snd lz] at this
        exact this)
      have hk := gg _ _ (hz e he) id
      have kz2 : (kp e.2.1).map kV = e.2.1.map V.str := kV_kp _
      refine ⟨rfl, _, rfl, _, rfl, _, rfl, D0, _, rfl, by rw [← hv]; exact DGet.t (gg _ _ hD0 id) (by rw [kz2]; exact hk), e.1, _, kp e.2.1, rfl, by rw [kz2]; exact hk, h1, szl ?_, ?_, g3.fresh hN⟩
      · unfold kmk
        rw [List.length_map, List.length_map, List.length_take]
        omega
      · rw [upd_same, putM_new, List.take_add_one, ee, List.map_append]
        · rfl
        · intro q hq e1
          obtain ⟨y, hy, rfl⟩ := List.mem_map.mp hq
          obtain ⟨j, hj⟩ := List.mem_iff_getElem?.mp hy
          have hji : j < i := by
            rcases Nat.lt_or_ge j i with h | h
            · exact h
            · rw [List.getElem?_take, if_neg (by omega)] at hj
              cases hj
          rw [List.getElem?_take_of_lt hji] at hj
          obtain ⟨a1, a2⟩ := List.getElem?_eq_some_iff.mp hj
          obtain ⟨b1, b2⟩ := List.getElem?_eq_some_iff.mp ee
          have := List.pairwise_iff_getElem.mp hSd j i a1 b1 hji
          rw [a2, b2] at this
          exact this e1
    · obtain ⟨h1, g3⟩ := h
      rw [List.length_map, List.take_length, hS] at h1
      have gg := g2.trans g3
      have nbN : N ≠ b := fun e => by rw [e, g2 _ _ hb id] at hN; cases hN
      refine ⟨_, rfl, b, BK, dx, [], rfl, gg _ _ hb id, Bt.cl, Bt.nM, (by show 0 < 1000; decide), ?_⟩
      refine k N _ (g2.free hN) upd_same (by rw [upd_ne nbN]; exact h1) fun x o hx nx => ?_
      rw [upd_ne nx]
      exact gg x o hx id
end
end K03

set_option Elab.async false
set_option linter.all false
set_option maxRecDepth 100000
set_option maxHeartbeats 4000000
set_option pp.maxSteps 400
namespace K03
open PySem L2 L2.G42
open Evl (pss_cut)
open PyProof.Rows (boot_isinstance boot_int boot_bool boot_list boot_set boot_abs boot_enumerate boot_tuple boot_str)
abbrev sRead : Stmt := inClass (top 16) 6
abbrev NRead : List Str := ["cls", "text", "reader"]
theorem scRead : FnScope NRead ["cls", "text"] (defScope sRead) := ⟨rfl, rfl, rfl, by decide +kernel, rfl, by decide +kernel, by decide +kernel⟩
section
variable {P : Program} {w : World} {K : PySem.W.Frag} {mg : Str → Option Value} {base : Heap} {BK R B : Addr}
theorem ok_read {f : Addr} {fd : FuncData} (F : Fun K "read" "Book.read" sRead f fd) (T : Bn mg) (Rc : RdC K R) (er : Er P w K mg base 1 "BadBook" B "at") (kR : Nw P w K mg base 2 "Reader" R (spRInit R) []) (mRW : MtX P w K mg base 14 R "read_whole" (spRW R B) []) (kB : NwV P w K mg base 1 BK (spBInit BK) []) :
    FnOk P w K mg base (L2.CX P w) 15 f fd ["cls", "text"] (spRead K BK B) := by
  refine F.okX scRead (fun vs H Q E h => ?_) (fun cdv A outer s H vs Q E hr h => ?_)
  · obtain ⟨x, d, rfl, _⟩ := h
    rfl
  · obtain ⟨x, d, rfl, hd, h⟩ := h
    refine ⟨_, (pss_cons (ps_if (pt_not (pt_val (pe_callB call_isi (by rfl) T.isi boot_isinstance (pa_cons (pv 1) (pa_cons (pe_bltn (v := .ty "str") (by rfl) T.str boot_str rfl) pa_nil))))) (pss_one (ps_raise1 er rfl (takes_of rfl rfl rfl rfl) hr (by decide) rfl (pe_un un_neg pe_int))) pss_nil)
      (pss_cons (ps_set (i := 2) scRead.nd rfl (.inl rfl) (pe_mk kR hr (by decide) rfl (pa_cons (pv 1) pa_nil)))
      (pss_cons (ps_expr (pe_mtS0 mRW (takes_of rfl rfl rfl rfl) hr (by decide) (pv 2)))
      (pss_one (ps_ret (pe_mkV (i := 0) kB hr (by decide) rfl (.inl rfl) (pa_cons (pe_fld (pv 2) rfl) pa_nil))))))), ?_⟩
    refine ⟨_, rfl, x, .ty "str", _, _, _, rfl, .ty _, ty_d hd, kit_isStr (Dp.nd hd), _, rfl, ?_⟩
    rcases h with ⟨hs, kE⟩ | ⟨z, rfl, hz, kE, kQ⟩
    · rw [hs]
      refine iteT ⟨_, rfl, err_one fun e he => kE e _ he upd_same (But.new he)⟩
    · refine iteF ?_
      cases hd
      refine ⟨_, rfl, ?_⟩
      intro r dx hr0 hdx ndx
      refine ⟨r, dx, z, rfl, upd_same, hz, fun Fa D H1 hF hD rd b1 => ⟨rfl, ?_⟩⟩
      obtain ⟨dx1, ob1⟩ := rd.ob
      have g1 : But (fun _ => False) H H1 := fun x o hx _ => b1 x o (by rw [upd_ne (ne_of_none hx hr0), upd_ne (ne_of_none hx hdx)]; exact hx) (ne_of_none hx hr0)
      refine ⟨_, rfl, r, dx1, _, rfl, ob1, rl_no _ _ _ (by decide +kernel), r, Fa, D, rdStart z, rfl, rd, start_ok hz, fun s2 e2 H2 rd2 b2 => ?_, fun p e e1 H2 he1 hx b2 => ?_⟩
      · obtain ⟨ms, em, mo, kq⟩ := kQ s2 e2
        have hrn : H r = none := hr0
        have hDn : H D = none := by
          cases q : H D with
          | none => rfl
          | some o => rw [upd_ne (ne_of_none q hr0), upd_ne (ne_of_none q hdx), q] at hD; cases hD
        have g2 : But (fun _ => False) H H2 := fun x o hx _ => b2 x o (g1 x o hx id) fun e => e.elim (fun e => ne_of_none hx hrn e) (fun e => ne_of_none hx hDn e)
        obtain ⟨dx2, ob2⟩ := rd2.ob
        refine ⟨rfl, _, rfl, r, R, dx2, _, _, rfl, ob2, Rc.cl, Rc.n3, rl_marks _ _ _, ?_⟩
        intro b bx hb hbx nbx
        have g3 : But (fun _ => False) H2 (upd (upd H2 bx (.own b)) b (.ins BK bx [])) := fun x o hx _ => by
          rw [upd_ne (ne_of_none hx hb), upd_ne (ne_of_none hx hbx)]
          exact hx
        refine ⟨b, bx, D, ms, rfl, upd_same, by rw [← em]; exact g3 _ _ rd2.ma id, mo.df, mo.few, mo.hd, fun D2 H4 hD2 o4 m4 b4 => ⟨rfl, ?_⟩⟩
        refine kq b D2 H4 (g2.free hb) ?_ ⟨⟨bx, o4⟩, m4⟩ fun x o hx _ => b4 x o (g3 _ _ (g2 x o hx id) id) (ne_of_none (g2 x o hx id) hb)
        exact g2.free (g3.free hD2)
      · have hDn : H D = none := by
          cases q : H D with
          | none => rfl
          | some o => rw [upd_ne (ne_of_none q hr0), upd_ne (ne_of_none q hdx), q] at hD; cases hD
        exact kE p e e1 H2 (g1.free he1) hx fun x o hx _ => b2 x o (g1 x o hx id) fun e => e.elim (fun e => ne_of_none hx hr0 e) (fun e => ne_of_none hx hDn e)
end
end K03

set_option Elab.async false
set_option linter.all false
set_option maxRecDepth 100000
set_option maxHeartbeats 4000000
set_option pp.maxSteps 400
namespace K03
open PySem L2 L2.G42
open Evl (pss_cut)
open PyProof.Rows (boot_isinstance boot_int boot_bool boot_list boot_set boot_abs boot_enumerate boot_tuple boot_str boot_all)
abbrev sIsRow : Stmt := top 11
abbrev NIsRow : List Str := ["thing", "key"]
theorem scIsRow : FnScope NIsRow ["thing"] (defScope sIsRow) := ⟨rfl, rfl, rfl, by decide +kernel, rfl, by decide +kernel, by decide +kernel⟩
abbrev sBStr : Stmt := inClass (top 16) 7
abbrev sBRepr : Stmt := inClass (top 16) 8
theorem scBStr : FnScope ["self"] ["self"] (defScope sBStr) := ⟨rfl, rfl, rfl, by decide +kernel, rfl, by decide +kernel, by decide +kernel⟩
theorem scBRepr : FnScope ["self"] ["self"] (defScope sBRepr) := ⟨rfl, rfl, rfl, by decide +kernel, rfl, by decide +kernel, by decide +kernel⟩
section
variable {P : Program} {w : World} {K : PySem.W.Frag} {mg : Str → Option Value} {base : Heap} {BK : Addr}
theorem ok_isRow {f : Addr} {fd : FuncData} (F : Fun K "is_row_of_keys" "is_row_of_keys" sIsRow f fd) (T : Bn mg) : FnOk P w K mg base CX0 1 f fd ["thing"] (spIsRow K) := by
  refine F.ok scIsRow (fun vs H Q E h => ?_) (fun cdv A outer s H vs Q E hr h => ?_)
  · obtain ⟨x, d, rfl, _⟩ := h
    rfl
  · obtain ⟨x, d, rfl, hd, few, k⟩ := h
    refine ⟨_, pss_one (ps_ret (pe_and (pe_callB call_isi (by rfl) T.isi boot_isinstance (pa_cons (pv 0) (pa_cons (pe_bltn (v := .ty "tuple") (by rfl) T.tuple boot_tuple rfl) pa_nil)))
      (pe_one (pe_callB (cr_all rfl) (by rfl) T.all boot_all (pa_cons (pe_lc (own := [("key", 1)]) (g := gName 1) (tt := tYes) rfl scIsRow.nd (pi_tup (pv 0)) (blkOk_by (own := [("key", 1)]) (N := NIsRow) (sc := defScope sIsRow) (by decide +kernel))
      (fun _ _ _ _ _ => (pg_name (i := 1) scIsRow.nd rfl (.inl rfl))) (fun _ _ _ _ _ => pts_nil) (fun _ _ _ _ _ => (pe_callB (kIsi (K := K) rfl) (by rfl) T.isi boot_isinstance (pa_cons (pv 1) (pa_cons (pe_bltn (v := .ty "str") (by rfl) T.str boot_str rfl) pa_nil))))) pa_nil))))), ?_⟩
    refine ⟨_, rfl, x, .ty "tuple", _, _, _, rfl, .ty _, ty_d hd, kit_isTup (Dp.nd hd), _, rfl, ?_⟩
    cases hd with
    | @tup a xs ds h1 h2 =>
      have few' := few ds rfl
      refine iteT ⟨_, rfl, a, rfl, ⟨_, h1⟩, fun L hL => ?_⟩
      refine lc_tup (K := K) (a := a) (xs := xs) (fun i H1 => H1 L = some (.lst (((ds.take i).map isStr).map V.bl)) ∧ But (fun _ => False) H H1)
        ⟨upd_same, But.new hL⟩ (fun i H1 _ h => SqT.grow h1 h.2) (fun i x H1 hx h => ?_) (fun H1 h => ?_)
      · obtain ⟨e1, g1⟩ := h
        obtain ⟨d, hd1, hd2⟩ := DpAll.at h2 hx
        have hd3 : Dp K H1 x d := Dp.part (fun b o e => g1 b o e id) d x hd2
        refine ⟨rfl, _, rfl, x, .ty "str", _, _, _, rfl, .ty _, ty_d hd3, kit_isStr (Dp.nd hd3), _, e1, szl ?_, ?_, g1.fresh hL⟩
        · rw [List.length_map, List.length_map, List.length_take]
          omega
        · rw [upd_same, List.take_add_one, hd1, List.map_append, List.map_append]
          rfl
      · obtain ⟨e1, g1⟩ := h
        rw [DpAll.len h2, List.take_length] at e1
        refine ⟨L, _, rfl, SqL.of e1, ?_⟩
        have e2 : (ds.map isStr).all id = isRowD (.tuple ds) := by
          show _ = ds.all isStr
          rw [List.all_map]
          rfl
        rw [e2]
        exact k H1 g1
    | _ => exact iteF (k H But.refl)
theorem ok_bstr {f : Addr} {fd : FuncData} (F : Fun K "__str__" "Book.__str__" sBStr f fd) (T : Bn mg) (Bt : BkT K BK) (cWr : Cl P w K mg base 7 "written" (spWr K 6) []) : FnOk P w K mg base CX0 8 f fd ["self"] (spBStr BK "" "") := by
  refine F.ok scBStr (fun vs H Q E h => ?_) (fun cdv A outer s H vs Q E hr h => ?_)
  · obtain ⟨b, D, n, t, rfl, _⟩ := h
    rfl
  · obtain ⟨b, D, n, t, rfl, bt, k⟩ := h
    refine ⟨_, pss_one (ps_ret (pe_callTy SkE.call_str_str (by rfl) T.str boot_str (pa_cons (pe_c cWr hr (by decide) rfl (pa_cons (pe_fld (pv 0) rfl) (pa_cons (pe_tup pa_nil) (pa_cons pe_bl pa_nil)))) pa_nil))), ?_⟩
    obtain ⟨dx, ob⟩ := bt.ob
    refine ⟨_, rfl, b, BK, dx, _, _, rfl, ob, Bt.cl, Bt.nM, rfl, szle (by simp), fun c hc => ?_⟩
    have g1 : But (fun _ => False) H (upd H c (.tup [])) := But.new hc
    refine ⟨D, c, true, n, t, ⟨[], n, t⟩, rfl, bt.ma.grow g1, Tr.rows_self n t [], bt.lv, .inl (.inl upd_same), fun H2 g2 => ⟨_, rfl, ?_⟩⟩
    have kk := k H2 (g1.trans g2)
    rw [nil_app, app_nil] at kk
    exact kk
theorem ok_brepr {f : Addr} {fd : FuncData} (F : Fun K "__repr__" "Book.__repr__" sBRepr f fd) (T : Bn mg) (Bt : BkT K BK) (cWr : Cl P w K mg base 7 "written" (spWr K 6) []) : FnOk P w K mg base CX0 8 f fd ["self"] (spBStr BK "Book(" ")") := by
  refine F.ok scBRepr (fun vs H Q E h => ?_) (fun cdv A outer s H vs Q E hr h => ?_)
  · obtain ⟨b, D, n, t, rfl, _⟩ := h
    rfl
  · obtain ⟨b, D, n, t, rfl, bt, k⟩ := h
    refine ⟨_, pss_one (ps_ret (pe_joined (PJ.cons pe_str (PJ.cons (pe_fmt (pe_c cWr hr (by decide) rfl (pa_cons (pe_fld (pv 0) rfl) (pa_cons (pe_tup pa_nil) (pa_cons pe_bl pa_nil))))) (PJ.cons pe_str PJ.nil))))), ?_⟩
    obtain ⟨dx, ob⟩ := bt.ob
    have sl := Tr.text_len n t bt.ma.ok []
    have few := bt.ma.few
    refine ⟨_, rfl, szle (by decide +kernel), _, rfl, b, BK, dx, _, _, rfl, ob, Bt.cl, Bt.nM, rfl, szle (by simp), fun c hc => ?_⟩
    have g1 : But (fun _ => False) H (upd H c (.tup [])) := But.new hc
    refine ⟨D, c, true, n, t, ⟨[], n, t⟩, rfl, bt.ma.grow g1, Tr.rows_self n t [], bt.lv, .inl (.inl upd_same), fun H2 g2 => .inl ⟨_, rfl, szle ?_, _, rfl, szle ?_, _, rfl, szle ?_, ?_⟩⟩
    · show (Tr.text n t).length ≤ _
      omega
    · show (Str.empty ++ Str.ofString "Book(" ++ Tr.text n t).length ≤ _
      rw [Tr.app_len, show (Str.empty ++ Str.ofString "Book(").length = 5 by decide +kernel]
      omega
    · show (Str.empty ++ Str.ofString "Book(" ++ Tr.text n t ++ Str.ofString ")").length ≤ _
      rw [Tr.app_len, Tr.app_len, show (Str.empty ++ Str.ofString "Book(").length = 5 by decide +kernel, show (Str.ofString ")").length = 1 by decide +kernel]
      omega
    · have kk := k H2 (g1.trans g2)
      show Q (.str (Str.empty ++ Str.ofString "Book(" ++ Tr.text n t ++ Str.ofString ")")) H2
      rw [show Str.empty ++ Str.ofString "Book(" = Str.ofString "Book(" by decide +kernel]
      exact kk
end
end K03

set_option Elab.async false
set_option linter.all false
set_option maxRecDepth 100000
set_option maxHeartbeats 4000000
set_option pp.maxSteps 400
namespace K03
open PySem L2 L2.G42
open Evl (pss_cut)
open PyProof.Rows (boot_isinstance boot_int boot_bool boot_list boot_set boot_abs boot_enumerate boot_tuple boot_str boot_all)
abbrev sBLen : Stmt := inClass (top 16) 10
abbrev NBLen : List Str := ["self", "place"]
theorem scBLen : FnScope NBLen ["self"] (defScope sBLen) := ⟨rfl, rfl, rfl, by decide +kernel, rfl, by decide +kernel, by decide +kernel⟩
abbrev sBHas : Stmt := inClass (top 16) 12
theorem scBHas : FnScope ["self", "thing"] ["self", "thing"] (defScope sBHas) := ⟨rfl, rfl, rfl, by decide +kernel, rfl, by decide +kernel, by decide +kernel⟩
abbrev sBGet : Stmt := inClass (top 16) 13
theorem scBGet : FnScope ["self", "place"] ["self", "place"] (defScope sBGet) := ⟨rfl, rfl, rfl, by decide +kernel, rfl, by decide +kernel, by decide +kernel⟩
abbrev sBForm : Stmt := inClass (top 16) 18
theorem scBForm : FnScope ["self", "place"] ["self", "place"] (defScope sBForm) := ⟨rfl, rfl, rfl, by decide +kernel, rfl, by decide +kernel, by decide +kernel⟩
section
variable {P : Program} {w : World} {K : PySem.W.Frag} {mg : Str → Option Value} {base : Heap} {BK : Addr}
theorem ok_blen {f : Addr} {fd : FuncData} (F : Fun K "__len__" "Book.__len__" sBLen f fd) (T : Bn mg) (N : BkN K mg) (Bt : BkT K BK) : FnOk P w K mg base CX0 1 f fd ["self"] (spBLen BK) := by
  refine F.ok scBLen (fun vs H Q E h => ?_) (fun cdv A outer s H vs Q E hr h => ?_)
  · obtain ⟨b, D, n, t, rfl, _⟩ := h
    rfl
  · obtain ⟨b, D, n, t, rfl, bt, k⟩ := h
    have hu := hu_of hr
    obtain ⟨ka, gk, hkd⟩ := N.kinds
    refine ⟨_, pss_one (ps_ret (pe_callB call_len_seq (by rfl) T.len PySem.boot_len (pa_cons (pe_lock (pe_lc (own := [("place", 1)]) (g := gName 1) (tt := tTest (tOp (rIn K false) (tDgT K (tFld K _ _) _) _)) rfl scBLen.nd (pi_keys (pe_fld (pv 0) rfl)) (blkOk_by (own := [("place", 1)]) (N := NBLen) (sc := defScope sBLen) (by decide +kernel))
      (fun _ _ _ _ _ => (pg_name (i := 1) scBLen.nd rfl (.inl rfl))) (fun _ _ _ _ _ => (pts_one (pt_cmpR (kIn (K := K) rfl) (pe_dgT (K := K) rfl hu (kFld (K := K) rfl (pv 0) rfl) (pv 1) (fun _ _ => rfl)) (pe_glob (v := .ref ka) rfl gk rfl) rfl))) (fun _ _ _ _ _ => pv 1))) pa_nil))), ?_⟩
    obtain ⟨dx, ob⟩ := bt.ob
    have mk := bt.ma
    refine ⟨D, _, mk.at_, trivial, fun od => ?_⟩
    have nbD : b ≠ D := fun e => by rw [e, mk.at_] at ob; cases ob
    refine ⟨_, rfl, b, BK, dx, _, _, rfl, by rw [upd_ne nbD]; exact ob, Bt.cl, Bt.nM, rfl, D, od, rfl, .inr ⟨_, upd_same, fun L hL => ?_⟩⟩
    have nLD : L ≠ D := fun e => by rw [e, upd_same] at hL; cases hL
    have hL0 : H L = none := by rw [upd_ne nLD] at hL; exact hL
    have few := mk.few
    refine lc_it walk_keysT (fun i H1 => (∃ rs : List V, H1 L = some (.lst rs) ∧ rs.length = (((Tr.rows n [] t).take i).filter fun r => kinds.contains (Tr.mark r.k r.t)).length) ∧ H1 D = some (.frz od (.dT (kmk (Tr.marks n [] t)))) ∧ But (· = D) H H1)
      ⟨⟨[], upd_same, by rw [List.take_zero]; rfl⟩, by rw [upd_ne nLD.symm, upd_same], (But.at (S := (· = D)) rfl).fresh hL0⟩ (fun i H1 hi h => h.2.1) (fun i x H1 H2 hi h y => ?_) (fun H1 h => ?_)
    · obtain ⟨⟨rs, h1, hl⟩, h2, h3⟩ := h
      obtain ⟨rfl, kk, v, q, e1, rfl, hq⟩ := y
      unfold kmk at e1
      rw [Tr.marks_rows, List.map_map, List.getElem?_map, Option.map_eq_some_iff] at e1
      obtain ⟨r, er, e2⟩ := e1
      injection e2 with e2 e3
      subst e2
      have hr1 : r ∈ Tr.rows n [] t := List.mem_of_getElem? er
      have ob2 := h3 _ _ ob nbD
      refine ⟨rfl, _, rfl, b, BK, dx, _, _, rfl, ob2, Bt.cl, Bt.nM, rfl, _, rfl, D, q, _, kp r.pl, _, rfl, rfl, rd_frz h2, .inl (.inl hq), val_row mk.ok hr1, ka, _, rfl, .inr (hkd _), rfl, rfl, _, rfl, ?_⟩
      have hin : inV (.str (Tr.mark r.k r.t)) [V.str "*", V.str "!"] = kinds.contains (Tr.mark r.k r.t) := inV_str (Tr.mark r.k r.t) kinds
      have stp := filter_take (fun r : Row => kinds.contains (Tr.mark r.k r.t)) (Tr.rows n [] t) er
      show if inV (.str (Tr.mark r.k r.t)) [V.str "*", V.str "!"] = true then _ else _
      rw [hin]
      cases hb : kinds.contains (Tr.mark r.k r.t) with
      | true =>
        have stp' : ((Tr.rows n [] t).take (i + 1)).filter (fun r : Row => kinds.contains (Tr.mark r.k r.t)) = ((Tr.rows n [] t).take i).filter (fun r : Row => kinds.contains (Tr.mark r.k r.t)) ++ [r] := by rw [stp]; simp only [hb]; rfl
        refine iteT ⟨_, rfl, _, h1, szl ?_, ⟨_, upd_same, ?_⟩, by rw [upd_ne nLD.symm]; exact h2, h3.fresh hL0⟩
        · rw [hl]
          exact Nat.le_trans (List.length_filter_le _ _) (by rw [List.length_take]; omega)
        · rw [stp', List.length_append, List.length_append, hl]
          rfl
      | false =>
        have stp' : ((Tr.rows n [] t).take (i + 1)).filter (fun r : Row => kinds.contains (Tr.mark r.k r.t)) = ((Tr.rows n [] t).take i).filter (fun r : Row => kinds.contains (Tr.mark r.k r.t)) := by rw [stp]; simp only [hb]; simp
        exact iteF ⟨⟨rs, h1, by rw [stp']; exact hl⟩, h2, h3⟩
    · obtain ⟨⟨rs, h1, hl⟩, h2, h3⟩ := h
      rw [List.take_of_length_le (by simp [kmk, Tr.marks_rows])] at hl
      refine ⟨h2, L, _, rfl, .inl (SqL.of (by rw [upd_ne nLD]; exact h1)), ?_⟩
      have g : But (fun _ => False) H (upd H1 D (.dT (kmk (Tr.marks n [] t)))) := fun b o hb _ => by
        by_cases e : b = D
        · subst e; rw [upd_same, ← mk.at_, hb]
        · rw [upd_ne e]; exact h3 b o hb e
      rw [hl]
      exact k _ g
theorem dp_isrow {p : List Str} : isRowD (.tuple (dS p)) = true := by
  show (dS p).all isStr = true
  unfold dS
  rw [List.all_map, List.all_eq_true]
  intro x _
  rfl
theorem ok_bhas {f : Addr} {fd : FuncData} (F : Fun K "__contains__" "Book.__contains__" sBHas f fd) (Bt : BkT K BK) (cRow : Cl P w K mg base 1 "is_row_of_keys" (spIsRow K) []) : FnOk P w K mg base CX0 2 f fd ["self", "thing"] (spBHas K BK) := by
  refine F.ok scBHas (fun vs H Q E h => ?_) (fun cdv A outer s H vs Q E hr h => ?_)
  · obtain ⟨b, D, c, n, t, p, rfl, _⟩ := h
    rfl
  · obtain ⟨b, D, c, n, t, p, rfl, bt, hc, hl, k⟩ := h
    have hu := hu_of hr
    refine ⟨_, pss_one (ps_ret (pe_and (pe_c cRow hr (by decide) rfl (pa_cons (pv 1) pa_nil)) (pe_one (pe_cmp (pc_dinT (K := K) rfl hu (pv 1) (pe_fld (pv 0) rfl)) rfl)))), ?_⟩
    refine ⟨_, rfl, .ref c, .tuple (dS p), rfl, dpT hc, fun ds e => ?_, fun H1 g1 => ⟨_, rfl, ?_⟩⟩
    · injection e with e
      rw [← e]
      unfold dS
      rw [List.length_map]
      exact hl
    rw [dp_isrow]
    obtain ⟨dx, ob⟩ := bt.ob
    refine iteT ⟨_, rfl, _, rfl, b, BK, dx, _, _, rfl, g1 _ _ ob id, Bt.cl, Bt.nM, rfl, D, c, _, kp p, rfl, rfl, .inl (g1 _ _ bt.ma.at_ id), by rw [kV_kp]; exact SqT.grow hc g1, ?_⟩
    show Q (.bl (valV (kmk (Tr.marks n [] t)) (kp p)).isSome) H1
    rw [hasPl_val bt.ma.ok]
    exact k H1 g1
theorem ok_bget {f : Addr} {fd : FuncData} (F : Fun K "__getitem__" "Book.__getitem__" sBGet f fd) (Bt : BkT K BK) (cRow : Cl P w K mg base 1 "is_row_of_keys" (spIsRow K) []) : FnOk P w K mg base CX0 2 f fd ["self", "place"] (spBGet K BK) := by
  refine F.ok scBGet (fun vs H Q E h => ?_) (fun cdv A outer s H vs Q E hr h => ?_)
  · obtain ⟨b, D, c, n, t, r, rfl, _⟩ := h
    rfl
  · obtain ⟨b, D, c, n, t, r, rfl, bt, hc, hr1, k⟩ := h
    have hu := hu_of hr
    refine ⟨_, pss_cons (ps_if (PW.pt (pw_or (pt_not (pt_val (pe_c cRow hr (by decide) rfl (pa_cons (pv 1) pa_nil)))) (pw_or1 (pt_cmp (pc_dninT (K := K) rfl hu (pv 1) (pe_fld (pv 0) rfl)))))) (pss_cons ps_never pss_never) pss_nil)
      (pss_one (ps_ret (pe_dgT (K := K) rfl hu (pe_fld (pv 0) rfl) (pv 1) (fun _ _ => rfl)))), ?_⟩
    refine ⟨_, rfl, .ref c, .tuple (dS r.pl), rfl, dpT hc, fun ds e => ?_, fun H1 g1 => ⟨_, rfl, ?_⟩⟩
    · injection e with e
      rw [← e]
      unfold dS
      rw [List.length_map]
      exact Nat.le_trans (row_len bt.ma hr1) (by decide)
    rw [dp_isrow]
    obtain ⟨dx, ob⟩ := bt.ob
    have hv := val_row bt.ma.ok hr1
    refine iteF ⟨_, rfl, _, rfl, b, BK, dx, _, _, rfl, g1 _ _ ob id, Bt.cl, Bt.nM, rfl, D, c, _, kp r.pl, rfl, rfl, .inl (g1 _ _ bt.ma.at_ id), by rw [kV_kp]; exact SqT.grow hc g1, ?_⟩
    rw [hv]
    refine ⟨_, rfl, iteF ?_⟩
    exact ⟨_, rfl, b, BK, dx, _, _, rfl, g1 _ _ ob id, Bt.cl, Bt.nM, rfl, _, rfl, D, c, _, kp r.pl, _, rfl, rfl, .inl (g1 _ _ bt.ma.at_ id), by rw [kV_kp]; exact SqT.grow hc g1, hv, k H1 g1⟩
theorem ok_bform {dvs : List V} {kws : List (Str × V)} {f : Addr} {fd : FuncData} (F : FunD K "form" "Book.form" (defArgs sBForm) (defBody sBForm) (defScope sBForm) dvs kws f fd) (Bt : BkT K BK) (oHas : Own1 P w K mg base 2 BK "__contains__" (spBHas K BK)) (cWr : Cl P w K mg base 7 "written" (spWr K 6) []) :
    FnOk P w K mg base CX0 8 f fd ["self", "place"] (spBForm K BK) := by
  refine F.ok scBForm (fun vs H Q E h => ?_) (fun cdv A outer s H vs Q E hr h => ?_)
  · obtain ⟨b, D, c, n, t, r, rfl, _⟩ := h
    rfl
  · obtain ⟨b, D, c, n, t, r, rfl, bt, hc, hr1, k⟩ := h
    refine ⟨_, pss_cons (ps_if (pt_cmpR (op_ninO oHas hr (by decide)) (pv 1) (pv 0) rfl) (pss_cons ps_never pss_never) pss_nil)
      (pss_one (ps_ret (pe_c cWr hr (by decide) rfl (pa_cons (pe_fld (pv 0) rfl) (pa_cons (pv 1) (pa_cons pe_bl pa_nil)))))), ?_⟩
    obtain ⟨dx, ob⟩ := bt.ob
    refine ⟨_, rfl, _, rfl, b, dx, _, rfl, ob, b, D, c, n, t, r.pl, rfl, bt, hc, Nat.le_trans (row_len bt.ma hr1) (by decide), fun H1 g1 => ⟨_, rfl, _, rfl, ?_⟩⟩
    rw [hasPl_row hr1]
    have bt1 := bt.grow g1
    have hk := (Tr.rows_ok n t bt.ma.ok [] r hr1).2
    exact iteF ⟨_, rfl, b, BK, dx, _, _, rfl, g1 _ _ ob id, Bt.cl, Bt.nM, rfl, _, rfl, D, c, false, n, t, r, rfl, bt1.ma, hr1, Nat.le_trans hk bt.lv, SqT.grow hc g1, fun H2 g2 => k H2 (g1.trans g2)⟩
end
end K03

set_option Elab.async false
set_option linter.all false
set_option maxRecDepth 100000
set_option maxHeartbeats 4000000
set_option pp.maxSteps 500
namespace K03
open PySem L2 L2.G42
open Evl (pss_cut)
open PyProof.Rows (boot_isinstance boot_int boot_bool boot_list boot_set boot_abs boot_enumerate boot_tuple boot_str boot_all)
abbrev sOf : Stmt := top 20
theorem scOf : FnScope ["_law_source_here", "_law_some"] ["_law_source_here", "_law_some"] (defScope sOf) := ⟨rfl, rfl, rfl, by decide +kernel, rfl, by decide +kernel, by decide +kernel⟩
abbrev sWords : Stmt := top 21
abbrev NWords : List Str := ["_law_source_here", "_law_many", "_law_reserved", "_law_letters", "_law_left", "_law_stem", "_law_found", "_law_turn", "_law_at", "_law_word"]
theorem scWords : FnScope NWords ["_law_source_here", "_law_many"] (defScope sWords) := ⟨rfl, rfl, rfl, by decide +kernel, rfl, by decide +kernel, by decide +kernel⟩
theorem flat_strs (ys : List Str) : (ys.map V.str).all flatV = true := by
  rw [List.all_map, List.all_eq_true]
  intro x _
  rfl
theorem seq_ix {j n : Nat} (h : j < n) : seqIndex? (j : Int) n = some j := by
  unfold seqIndex?
  simp
  omega
theorem log_small {n : Nat} (h : n ≤ 1000) : ((n : Int)).natAbs.log2 < 9000 := by
  rw [Int.natAbs_natCast]
  exact Nat.lt_of_le_of_lt (Nat.log2_le_self n) (by omega)
section
variable {P : Program} {w : World} {K : PySem.W.Frag} {mg : Str → Option Value} {base : Heap}
theorem ok_of {f : Addr} {fd : FuncData} (F : Fun K "_law_of" "_law_of" sOf f fd) (T : Bn mg) (cTake : Cl P w K mg base 1 "_law_take" spTake []) : FnOk P w K mg base CX0 2 f fd ["_law_source_here", "_law_some"] (spOf K) := by
  refine F.ok scOf (fun vs H Q E h => ?_) (fun cdv A outer s H vs Q E hr h => ?_)
  · obtain ⟨a, l, xs, rfl, _⟩ := h
    rfl
  · obtain ⟨a, l, xs, rfl, S, hl, ne, h0, h1, k⟩ := h
    refine ⟨_, (pss_one (ps_ret (pe_ix ix_list (pv 1) (pe_c cTake hr (by decide) rfl (pa_cons (pv 0) (pa_cons (pe_callB call_len_seq (by rfl) T.len PySem.boot_len (pa_cons (pv 1) pa_nil)) pa_nil))) (fun _ _ => rfl)))), ?_⟩
    refine ⟨_, rfl, _, rfl, _, rfl, l, xs, rfl, .inl hl, a, _, rfl, by omega, log_small h1, S, fun r c st n r0 r1 => ?_⟩
    obtain ⟨i, rfl⟩ := Int.eq_ofNat_of_zero_le r0
    have hi : i < xs.length := by omega
    refine ⟨l, _, _, xs[i], rfl, rfl, SqL.but hl (But.at (S := (· = a)) rfl) (fun e => ne e.symm), atI_nat (List.getElem?_eq_getElem hi), k i _ c st n (List.getElem?_eq_getElem hi)⟩
theorem ok_words {f : Addr} {fd : FuncData} (F : Fun K "_law_words" "_law_words" sWords f fd) (T : Bn mg) (cTake : Cl P w K mg base 1 "_law_take" spTake []) : FnOk P w K mg base CX0 2 f fd ["_law_source_here", "_law_many"] spWords := by
  refine F.ok scWords (fun vs H Q E h => ?_) (fun cdv A outer s H vs Q E hr h => ?_)
  · obtain ⟨a, many, rfl, _⟩ := h
    rfl
  · obtain ⟨a, many, rfl, m1, m2, S, k⟩ := h
    refine ⟨_, (pss_cons (ps_set (i := 2) scWords.nd rfl (.inl rfl) (pe_lst (pa_cons pe_str (pa_cons pe_str (pa_cons pe_str (pa_cons pe_str (pa_cons pe_str (pa_cons pe_str (pa_cons pe_str (pa_cons pe_str (pa_cons pe_str (pa_cons pe_str (pa_cons pe_str pa_nil)))))))))))))
      (pss_cut (ps_set (i := 2) scWords.nd rfl (.inl rfl) (pe_op op_cat (pv 2) (pe_lst (pa_cons pe_str (pa_cons pe_str (pa_cons pe_str (pa_cons pe_str (pa_cons pe_str (pa_cons pe_str (pa_cons pe_str (pa_cons pe_str pa_nil)))))))))))
      (pss_cons (ps_set (i := 3) scWords.nd rfl (.inl rfl) pe_str)
      (pss_cut (ps_par3 (i := 4) (j := 5) (l := 6) rfl scWords.nd rfl rfl rfl (by decide) (by decide) (by decide) rfl rfl rfl (pa_cons (pe_callTy (cr_listS rfl) (by rfl) T.list boot_list (pa_cons (pv 3) pa_nil)) (pa_cons pe_str (pa_cons (pe_lst pa_nil) pa_nil))) (by rfl))
      (pss_cons (ps_for PassesOwn.never rfl (pi_range1 (by rfl) T.range (pa_cons (pe_c cTake hr (by decide) rfl (pa_cons (pv 0) (pa_cons pe_int pa_nil))) pa_nil)) (pg_name (i := 7) scWords.nd rfl (.inl rfl)) (pss_one (ps_set (i := 5) scWords.nd rfl (.inl rfl) (pe_op op_add_str (pv 5) (pe_ix ix_str (pv 3) (pe_c cTake hr (by decide) rfl (pa_cons (pv 0) (pa_cons pe_int pa_nil))) (fun _ _ => rfl))))))
      (pss_cons (ps_set (i := 8) scWords.nd rfl (.inl rfl) (pe_c cTake hr (by decide) rfl (pa_cons (pv 0) (pa_cons (pe_op op_add (pe_callB call_len_str (by rfl) T.len PySem.boot_len (pa_cons (pv 5) pa_nil)) pe_int) pa_nil))))
      (pss_cut (ps_if (PW.pt (pw_and (pt_cmpR op_gt (pv 8) pe_int (nomark _)) (pw_and (pt_cmpR op_eq (pe_c cTake hr (by decide) rfl (pa_cons (pv 0) (pa_cons pe_int pa_nil))) pe_int (nomark _)) (pw_and1 (pt_cmpR op_notIn_seq (pe_slice sl_str (pv 5) po_none (po_some (pv 8))) (pv 2) rfl))))) (pss_one (ps_expr (pe_bm PySem.F.plainAttrs_list PySem.F.slot_list_append PySem.F.type_list_append mt_append (pv 6) (pa_cons (pe_slice sl_str (pv 5) po_none (po_some (pv 8))) pa_nil)))) pss_nil)
      (pss_cons (ps_while PassesOwn.never (pt_cmpR op_lt (pe_callB call_len_seq (by rfl) T.len PySem.boot_len (pa_cons (pv 6) pa_nil)) (pv 1) (nomark _))
        (pss_cons (ps_set (i := 9) scWords.nd rfl (.inl rfl) (pe_op op_add_str (pe_slice sl_str (pv 5) po_none (po_some (pv 8))) (pe_bm PySem.F.plainAttrs_list PySem.F.slot_list_pop PySem.F.type_list_pop mt_popAt (pv 4) (pa_cons (pe_c cTake hr (by decide) rfl (pa_cons (pv 0) (pa_cons (pe_callB call_len_seq (by rfl) T.len PySem.boot_len (pa_cons (pv 4) pa_nil)) pa_nil))) pa_nil))))
        (pss_cons (ps_set (i := 9) scWords.nd rfl (.inl rfl) (pe_op op_add_str (pv 9) (pe_slice sl_str (pv 5) (po_some (pv 8)) (po_some (pe_op op_add (pv 8) (pe_c cTake hr (by decide) rfl (pa_cons (pv 0) (pa_cons (pe_op op_add (pe_op op_sub (pe_callB call_len_str (by rfl) T.len PySem.boot_len (pa_cons (pv 5) pa_nil)) (pv 8)) pe_int) pa_nil))))))))
        (pss_one (ps_expr (pe_bm PySem.F.plainAttrs_list PySem.F.slot_list_append PySem.F.type_list_append mt_append (pv 6) (pa_cons (pe_ifExp (pt_cmpR op_in_seq (pv 9) (pv 2) rfl) (pe_op op_add_str (pv 9) pe_str) (pv 9)) pa_nil)))))))
      (pss_one (ps_ret (pv 6))))))))))), ?_⟩
    refine ⟨szle (by simp), fun r1 hr1 => ?_⟩
    refine ⟨fun σ H3 => ∃ rl, σ = [some (.ref a), some (.int many), some (.ref rl), none, none, none, none, none, none, none] ∧ H3 rl = some (.lst (reserved.map V.str)) ∧ H rl = none ∧ But (fun _ => False) H H3, ?_, ?_⟩
    · refine ⟨_, rfl, szle (by simp), fun r2 hr2 => ⟨r1, r2, _, _, rfl, rfl, by rw [upd_ne (ne_of_none upd_same hr2)]; exact upd_same, upd_same, szle (by simp), fun rl hrl => ?_⟩⟩
      exact ⟨rl, rfl, upd_same, But.free ((But.new hr1).trans (But.new hr2)) hrl, ((But.new hr1).trans (But.new hr2)).trans (But.new hrl)⟩
    rintro σ H3 ⟨rl, rfl, eR, nR, g3⟩
    refine ⟨fun σ H4 => ∃ L Fa, σ = [some (.ref a), some (.int many), some (.ref rl), some (.str lettersS), some (.ref L), some (.str (tx [])), some (.ref Fa), none, none, none] ∧ WdSt H H4 a rl L Fa lettersS.cps.toList [], ?_, ?_⟩
    · refine ⟨_, rfl, lettersS, rfl, by decide +kernel, fun L hL => ⟨szle (by simp), fun Fa hF => ⟨_, _, _, rfl, L, Fa, rfl, ?_⟩⟩⟩
      have g4 : But (fun _ => False) H3 _ := But.new (o := .lst (lettersS.cps.toList.map fun c => V.str (tx [c]))) hL
      have g5 : But (fun _ => False) H _ := (g3.trans g4).trans (But.new (o := .lst []) hF)
      have nLF : L ≠ Fa := ne_of_none (show upd H3 L (.lst (lettersS.cps.toList.map fun c => V.str (tx [c]))) L = some _ from upd_same) hF
      exact ⟨SrcAt.but S g5, (g4.trans (But.new hF)) _ _ eR id, by rw [upd_ne nLF]; exact upd_same, upd_same, g3.free hL, (g3.trans g4).free hF, nR, nLF, (ne_of_none eR hL).symm, (ne_of_none (g4 _ _ eR id) hF).symm, S, g5.mono fun _ h => h.elim⟩
    rintro σ H4 ⟨L, Fa, rfl, W4⟩
    refine ⟨_, rfl, a, 8, rfl, by decide, by decide, W4.src, fun r c st n r0 r1 => ?_⟩
    obtain ⟨q, rfl⟩ := Int.eq_ofNat_of_zero_le r0
    have hq : q ≤ 7 := by omega
    refine ⟨_, rfl, by omega, by omega, for_range (lo := 0) (n := (q : Int).toNat) (fun i σ H5 => ∃ (stem : List Nat) (x : Option V), σ = [some (.ref a), some (.int many), some (.ref rl), some (.str lettersS), some (.ref L), some (.str (tx stem)), some (.ref Fa), x, none, none] ∧ Lets stem ∧ stem.length = i ∧ WdSt H H5 a rl L Fa lettersS.cps.toList [])
      ⟨[], none, rfl, (fun c hc => nomatch hc), rfl, W4.draw c st n⟩ ?_ ?_⟩
    · rintro i σ H5 hi ⟨stem, x, rfl, ls, ll, W5⟩
      have hi' : i < 8 := by omega
      refine ⟨_, rfl, _, rfl, _, rfl, a, 26, rfl, by decide, by decide, W5.src, fun r c st n r0 r1 => ?_⟩
      obtain ⟨j, rfl⟩ := Int.eq_ofNat_of_zero_le r0
      have hj : j < lettersS.cps.toList.length := by rw [letters_len]; omega
      refine ⟨lettersS, _, lettersS.cps.toList[j], rfl, rfl, szle (by decide +kernel), atI_nat (List.getElem?_eq_getElem hj), _, _, rfl, rfl, szle ?_, stem ++ [lettersS.cps.toList[j]], some (.int (0 + (i : Int))), ?_, ls.app (fun c hc => by rw [List.mem_singleton.mp hc]; exact letters_lets _ (List.getElem_mem hj)), by rw [List.length_append, ll]; rfl, W5.draw c st n⟩
      · rw [tx_len, ll]
        show i + 1 ≤ _
        omega
      · rw [← tx_app]
        rfl
    rintro σ H5 ⟨stem, x, rfl, ls, ll, W5⟩
    have l7 : stem.length ≤ 7 := by rw [ll]; omega
    have tl : (tx stem).length = stem.length := tx_len stem
    refine ⟨_, rfl, _, rfl, _, rfl, szle (by rw [tl]; omega), _, _, rfl, rfl, a, ((stem.length + 1 : Nat) : Int), by rw [tl]; rfl, by omega, log_small (by omega), W5.src, fun r c st n r0 r1 => ?_⟩
    obtain ⟨at_, rfl⟩ := Int.eq_ofNat_of_zero_le r0
    have hat : at_ ≤ stem.length := by omega
    have W6 := W5.draw c st n
    generalize upd H5 a (src c st n) = H6 at W6 ⊢
    have dr0 : Drawn stem at_ lettersS.cps.toList [] := Drawn.nil _ _ _
    refine ⟨fun σ H7 => ∃ ws : List Str, σ = [some (.ref a), some (.int many), some (.ref rl), some (.str lettersS), some (.ref L), some (.str (tx stem)), some (.ref Fa), x, some (.int at_), none] ∧ WdSt H H7 a rl L Fa lettersS.cps.toList ws ∧ Drawn stem at_ lettersS.cps.toList ws ∧ ws.length ≤ 1, ?_, ?_⟩
    · refine ⟨_, rfl, _, _, rfl, rfl, _, rfl, ite2 (fun h0 => ?_) (fun h0 => ⟨[], rfl, W6, dr0, Nat.zero_le _⟩)⟩
      have h0' : 0 < at_ := by
        have := of_decide_eq_true h0
        omega
      refine ⟨_, rfl, a, 3, rfl, by decide, by decide, W6.src, fun r c st n r0 r1 => ⟨rfl, _, rfl, ite2 (fun _ => ?_) (fun _ => ⟨[], rfl, W6.draw c st n, dr0, Nat.zero_le _⟩)⟩⟩
      have W7 := W6.draw c st n
      generalize upd H6 a (src c st n) = H7 at W7 ⊢
      refine ⟨_, rfl, _, rfl, _, rfl, _, rfl, szle (by rw [tl]; omega), _, rfl, rl, _, rfl, .inl (SqL.of W7.res), rfl, flat_strs _, _, rfl, ?_⟩
      rw [cut_pre]
      show if (!inV (.str (tx (stem.take at_))) (reserved.map V.str)) = true then _ else _
      rw [inV_str]
      cases hres : reserved.contains (tx (stem.take at_)) with
      | true => exact iteF ⟨[], rfl, W7, dr0, Nat.zero_le _⟩
      | false =>
        refine iteT ⟨_, rfl, .inl ⟨rfl, _, SqL.of W7.fd⟩, _, rfl, _, rfl, _, rfl, _, rfl, szle (by rw [tl]; omega), Fa, _, _, rfl, rfl, W7.fd, szl (by simp), ?_⟩
        rw [cut_pre]
        exact ⟨[tx (stem.take at_)], rfl, W7.push (tx (stem.take at_)), Drawn.first ls l7 h0' hat hres, Nat.le_refl _⟩
    rintro σ H7 ⟨ws0, rfl, W7, D7, l1⟩
    refine ⟨fun m σ H8 => ∃ (left : List Nat) (ws : List Str) (y : Option V), m = many - ws.length ∧ σ = [some (.ref a), some (.int many), some (.ref rl), some (.str lettersS), some (.ref L), some (.str (tx stem)), some (.ref Fa), x, some (.int at_), y] ∧ WdSt H H8 a rl L Fa left ws ∧ Drawn stem at_ left ws ∧ ws.length ≤ many ∧ left.Nodup ∧ Lets left ∧ 26 ≤ left.length + ws.length ∧ left.length ≤ 26, ⟨_, lettersS.cps.toList, ws0, none, rfl, rfl, W7, D7, by omega, letters_nodup, letters_lets, by rw [letters_len]; omega, by rw [letters_len]; omega⟩, ?_⟩
    rintro m σ H8 ⟨left, ws, y, rfl, rfl, W8, D8, lm, nd, ll8, l26, u26⟩
    refine ⟨_, rfl, Fa, _, rfl, .inl (SqL.of W8.fd), _, rfl, _, _, rfl, rfl, _, rfl, ?_⟩
    by_cases hlt : ws.length < many
    · rw [decide_eq_true (by rw [List.length_map]; omega)]
      refine iteT ⟨_, fun _ _ h => h, ?_⟩
      have lz : ∀ {l : List Nat}, (left.map fun c => V.str (tx [c])).length = left.length := by rw [List.length_map]; exact fun {_} => rfl
      refine ⟨_, rfl, _, rfl, _, rfl, _, rfl, szle (by rw [tl]; omega), _, rfl, .inl ⟨rfl, _, SqL.of W8.lf⟩, _, rfl, _, rfl, L, _, rfl, .inl (SqL.of W8.lf), a, ((left.length : Nat) : Int), by rw [List.length_map]; rfl, by omega, log_small (by omega), W8.src, fun r c st n r0 r1 => ?_⟩
      obtain ⟨j, rfl⟩ := Int.eq_ofNat_of_zero_le r0
      have hj : j < left.length := by omega
      have W9 := W8.draw c st n
      generalize upd H8 a (src c st n) = H9 at W9 ⊢
      have hlj : left[j]? = some left[j] := List.getElem?_eq_getElem hj
      refine ⟨L, _, _, j, V.str (tx [left[j]]), rfl, rfl, W9.lf, by omega, by omega, seq_ix (by rw [List.length_map]; exact hj), by rw [List.getElem?_map, hlj]; rfl, _, _, rfl, rfl, szle ?_, ?_⟩
      · rw [cut_pre, tx_len, tx_len, List.length_take]
        show _ + 1 ≤ _
        omega
      have W10 := W9.pop j
      generalize upd H9 L (.lst ((left.map fun c => V.str (tx [c])).eraseIdx j)) = H10 at W10 ⊢
      rw [cut_pre, tx_app]
      refine ⟨_, rfl, _, rfl, _, rfl, _, rfl, _, rfl, _, rfl, _, rfl, _, rfl, szle (by rw [tl]; omega), _, rfl, _, _, rfl, rfl, _, _, rfl, rfl, a, ((stem.length - at_ + 1 : Nat) : Int), ?_, by omega, log_small (by omega), W10.src, fun r c st n r0 r1 => ?_⟩
      · have e2 : ((stem.length : Int) - (at_ : Int) + 1) = ((stem.length - at_ + 1 : Nat) : Int) := by omega
        rw [tl]
        show [V.ref a, V.int ((stem.length : Int) - (at_ : Int) + 1)] = _
        rw [e2]
      obtain ⟨e, rfl⟩ := Int.eq_ofNat_of_zero_le r0
      have W11 := W10.draw c st n
      generalize upd H10 a (src c st n) = H11 at W11 ⊢
      refine ⟨_, _, rfl, rfl, _, rfl, _, rfl, szle (by rw [tl]; omega), _, _, rfl, rfl, szle ?_, ?_⟩
      · rw [cut_seg, tx_len, tx_len, List.length_append, List.length_take, List.length_take, List.length_drop]
        show _ + 1 + _ ≤ _
        omega
      rw [cut_seg, tx_app]
      refine ⟨_, rfl, .inl ⟨rfl, _, SqL.of W11.fd⟩, _, rfl, _, rfl, rl, _, rfl, .inl (SqL.of W11.res), rfl, flat_strs _, _, rfl, ?_⟩
      show if inV (.str (tx (stem.take at_ ++ [left[j]] ++ (stem.drop at_).take e))) (reserved.map V.str) = true then _ else _
      rw [inV_str]
      have dr := D8.add ls l7 (i := j) (c := left[j]) (k := e) hlj nd ll8
      have fin : ∀ z : Str, z = tx (wordOf stem at_ left[j] e) → ∀ v : Option V, ∃ m', m' < many - ws.length ∧ ∃ (left' : List Nat) (ws' : List Str) (y' : Option V), m' = many - ws'.length ∧ [some (V.ref a), some (.int many), some (.ref rl), some (.str lettersS), some (.ref L), some (.str (tx stem)), some (.ref Fa), x, some (.int at_), v] = [some (.ref a), some (.int many), some (.ref rl), some (.str lettersS), some (.ref L), some (.str (tx stem)), some (.ref Fa), x, some (.int at_), y'] ∧ WdSt H (upd H11 Fa (.lst (ws.map V.str ++ [V.str z]))) a rl L Fa left' ws' ∧ Drawn stem at_ left' ws' ∧ ws'.length ≤ many ∧ left'.Nodup ∧ Lets left' ∧ 26 ≤ left'.length + ws'.length ∧ left'.length ≤ 26 := fun z hz v => by
        subst hz
        refine ⟨_, ?_, left.eraseIdx j, ws ++ [tx (wordOf stem at_ left[j] e)], v, rfl, rfl, W11.push _, dr, ?_, ?_, ?_, ?_, by rw [List.length_eraseIdx_of_lt hj]; omega⟩
        · rw [List.length_append]
          show many - (ws.length + 1) < _
          omega
        · rw [List.length_append]
          exact hlt
        · exact nd.sublist (List.eraseIdx_sublist _ _)
        · exact fun c hc => ll8 c (List.mem_of_mem_eraseIdx hc)
        · rw [List.length_append, List.length_eraseIdx_of_lt hj]
          show 26 ≤ left.length - 1 + (ws.length + 1)
          omega
      cases hres : reserved.contains (tx (stem.take at_ ++ [left[j]] ++ (stem.drop at_).take e)) with
      | true =>
        refine iteT ⟨_, rfl, _, _, rfl, rfl, szle ?_, Fa, _, _, rfl, rfl, W11.fd, szl (by rw [List.length_map]; omega), ?_⟩
        · have := res_len hres
          have e1 : (Str.ofString "q").length = 1 := by decide +kernel
          rw [e1]
          omega
        · refine fin _ ?_ _
          unfold wordOf
          simp only
          rw [if_pos hres, ← tx_app _ [113]]
          rfl
      | false =>
        refine iteF ⟨_, rfl, Fa, _, _, rfl, rfl, W11.fd, szl (by rw [List.length_map]; omega), ?_⟩
        refine fin _ ?_ _
        unfold wordOf
        simp only
        rw [if_neg (by rw [hres]; decide)]
    · rw [decide_eq_false (by rw [List.length_map]; omega)]
      exact iteF ⟨_, rfl, k Fa ws H8 W8.nF W8.fd (by omega) D8.nd D8.key W8.src W8.g⟩
end
end K03

set_option Elab.async false
set_option linter.all false
set_option maxRecDepth 100000
set_option maxHeartbeats 4000000
set_option pp.maxSteps 500
namespace K03
open PySem L2 L2.G42
open Evl (pss_cut)
open PyProof.Rows (boot_isinstance boot_int boot_bool boot_list boot_set boot_abs boot_enumerate boot_tuple boot_str boot_all)
abbrev sTab : Stmt := top 22
abbrev NTab : List Str := ["_law_source_here", "_law_words_here", "_law_left", "_law_level", "_law_keys", "_law_entries", "_law_turn", "_law_key"]
theorem scTab : FnScope NTab ["_law_source_here", "_law_words_here", "_law_left", "_law_level"] (defScope sTab) := ⟨rfl, rfl, rfl, by decide +kernel, rfl, by decide +kernel, by decide +kernel⟩
def forBody : Stmt → List Stmt
  | .For (body := b) .. => b
  | _ => []
def ifBody : Stmt → List Stmt
  | .If _ b _ _ => b
  | _ => []
def brTab : List Stmt := ifBody ((forBody ((defBody sTab).getD 1 (.Pass ⟨0, 0, 0, 0⟩))).getD 3 (.Pass ⟨0, 0, 0, 0⟩))
section
variable {P : Program} {w : World} {K : PySem.W.Frag} {mg : Str → Option Value} {base : Heap} {f : Addr} {cdv : Value} {A : Around} {outer : List Env} {s0 : Shared} {H0 : Hp} {E0' : XK}
abbrev XTab (P : Program) (w : World) (K : PySem.W.Frag) (mg : Str → Option Value) (base : Heap) (f : Addr) (cdv : Value) (A : Around) (outer : List Env) (s : Shared) (H : Hp) (E : XK) : Cx := (cxOf CX0 P w K mg base NTab "_law_table" (defScope sTab) f cdv A outer s H E).nox
/-- what the branch that draws a table within does -/
def BrOk (K : PySem.W.Frag) (n : Nat) (tb : TS) : Prop := ∀ (D : Ends) (H H1 : Hp) (a wl lf KL EL : Addr) (ws ks : List Str) (es : List (Str × Tr n)) (t1 b1 lv : Nat) (vs : List V) (G : Hp) (turn : Option V) (key : Str), lv + (n + 1) = 5 → lv < 4 → TbSt K n H H1 a wl lf KL EL ws ks es t1 b1 vs G → 1 ≤ t1 → t1 ≤ 100 → b1 ≤ 100 → 3 ≤ ws.length → ws.length ≤ 20 → ws.Nodup → (∀ w ∈ ws, isKey w = true) → vs.length ≤ 20 →
  (∀ (t : Tr n) (t2 b2 : Nat) (H3 : Hp) (v : V) (G' : Hp), TbSt K n H H3 a wl lf KL EL ws ks (es ++ [(key, t)]) t2 b2 (vs ++ [v]) G' → Tr.Ok n t → Tr.Few n t → Tr.nt n t + t2 = t1 → Tr.nb n t + b2 = b1 + 1 → D.nx [some (.ref a), some (.ref wl), some (.ref lf), some (.int (lv : Nat)), some (.ref KL), some (.ref EL), turn, some (.str key)] H3) →
  tb D [some (.ref a), some (.ref wl), some (.ref lf), some (.int (lv : Nat)), some (.ref KL), some (.ref EL), turn, some (.str key)] H1
theorem br_zero : ∃ t, PSs (XTab P w K mg base f cdv A outer s0 H0 E0') brTab t ∧ BrOk K 0 t :=
  ⟨_, pss_cons ps_never pss_never, fun _ _ _ _ _ _ _ _ _ _ _ _ _ lv _ _ _ _ h1 h2 => absurd h1 (by omega)⟩
theorem br_succ {k n : Nat} (cTab : Cl P w K mg base k "_law_table" (spTab K (n + 1)) []) (hr : Room k (XTab P w K mg base f cdv A outer s0 H0 E0').A) : ∃ t, PSs (XTab P w K mg base f cdv A outer s0 H0 E0') brTab t ∧ BrOk K (n + 1) t := by
  refine ⟨_, (pss_cons (ps_asg (pe_op op_sub (pe_ix ix_list (pv 2) pe_int (fun _ _ => rfl)) pe_int) (pg_sub (pv 2) pe_int set_list)) (pss_one (ps_expr (pe_bm PySem.F.plainAttrs_list PySem.F.slot_list_append PySem.F.type_list_append mt_append (pv 5) (pa_cons (pe_lst (pa_cons (pv 7) (pa_cons (pe_c cTab hr (Nat.le_refl _) rfl (pa_cons (pv 0) (pa_cons (pv 1) (pa_cons (pv 2) (pa_cons (pe_op op_add (pv 3) pe_int) pa_nil))))) pa_nil))) pa_nil))))), ?_⟩
  intro D H H1 a wl lf KL EL ws ks es t1 b1 lv vs G turn key hlv hlt T ht t100 b100 w3 w20 wnd wk v20 k'
  refine ⟨_, rfl, lf, _, _, _, rfl, rfl, SqL.of T.elf, rfl, _, _, rfl, rfl, _, rfl, lf, _, _, 0, rfl, rfl, T.elf, rfl, ?_⟩
  have e1 : ((t1 : Int) - 1) = ((t1 - 1 : Nat) : Int) := by omega
  have T1 : TbSt K (n + 1) H (upd H1 lf (.lst [.int ((t1 : Int) - 1), .int (b1 : Nat)])) a wl lf KL EL ws ks es (t1 - 1) b1 vs G := by
    rw [e1]
    exact T.left (t1 - 1) b1
  refine ⟨_, rfl, .inl ⟨rfl, _, SqL.of T1.el⟩, _, rfl, _, rfl, _, rfl, _, rfl, _, rfl, _, _, rfl, rfl, ?_⟩
  refine ⟨a, wl, lf, ws, lv + 1, t1 - 1, b1, rfl, by omega, T1.src, T1.ewl, T1.elf, T1.n1, T1.n2, T1.n3, w3, w20, wnd, wk, by omega, b100, fun v t t2 b2 G2 H3 hR hO hF hnt hnb hdp hpa hfr hsr hlf hbt => ?_⟩
  refine ⟨szle (by simp), fun p hp => ⟨EL, vs, .ref p, rfl, rfl, ?_, szl (by omega), ?_⟩⟩
  · have aE := ne_none (src_ne' T.ha) T.nE
    have lE := ne_none T.hl T.nE
    have h3 : H3 EL = some (.lst vs) := hbt _ _ T1.el fun e => e.elim (fun e => aE e.symm) (fun e => lE e.symm)
    rw [upd_ne (ne_of_none h3 hp)]
    exact h3
  · exact k' t t2 b2 _ _ _ (T1.push hbt hsr hlf hpa hfr hdp hp) hO hF (by omega) hnb
theorem ok_tab {k n : Nat} {fd : FuncData} (F : Fun K "_law_table" "_law_table" sTab f fd) (T : Bn mg) (cTake : Cl P w K mg base 1 "_law_take" spTake []) (cOf : Cl P w K mg base 2 "_law_of" (spOf K) []) (h2 : 2 ≤ k)
    (hbr : ∀ (cdv : Value) (A : Around) (outer : List Env) (s0 : Shared) (H0 : Hp) (E0' : XK), Room k (XTab P w K mg base f cdv A outer s0 H0 E0').A → ∃ t, PSs (XTab P w K mg base f cdv A outer s0 H0 E0') brTab t ∧ BrOk K n t) :
    FnOk P w K mg base CX0 (k + 1) f fd ["_law_source_here", "_law_words_here", "_law_left", "_law_level"] (spTab K (n + 1)) := by
  refine F.ok scTab (fun vs H Q E h => ?_) (fun cdv A outer s H vs Q E hr h => ?_)
  · obtain ⟨a, wl, lf, ws, lv, tb, bb, rfl, _⟩ := h
    rfl
  · obtain ⟨a, wl, lf, ws, lv, tb, bb, rfl, hlv, S, hwl, hlf, n1, n2, n3, w3, w20, wnd, wk, t100, b100, kk⟩ := h
    obtain ⟨tbr, pbr, hb⟩ := hbr cdv A outer s H E hr
    refine ⟨_, (pss_cut (ps_par (i := 4) (j := 5) rfl scTab.nd rfl rfl (by decide) rfl rfl (pa_cons (pe_callTy call_list_of (by rfl) T.list boot_list (pa_cons (pv 1) pa_nil)) (pa_cons (pe_lst pa_nil) pa_nil)) (by rfl))
      (pss_cut (ps_for PassesOwn.never rfl (pi_range1 (by rfl) T.range (pa_cons (pe_op op_add pe_int (pe_c cTake hr (by omega) rfl (pa_cons (pv 0) (pa_cons pe_int pa_nil)))) pa_nil)) (pg_name (i := 6) scTab.nd rfl (.inl rfl))
        (pss_cut (ps_if (PW.pt (pw_and (pt_cmpR op_gt (pv 6) pe_int (nomark _)) (pw_and1 (pt_cmpR op_eq (pe_ix ix_list (pv 2) pe_int (fun _ _ => rfl)) pe_int (nomark _))))) (pss_one ps_break) pss_nil)
        (pss_cut (ps_if (pt_cmpR op_gt (pv 6) pe_int (nomark _)) (pss_one (ps_asg (pe_op op_sub (pe_ix ix_list (pv 2) pe_int (fun _ _ => rfl)) pe_int) (pg_sub (pv 2) pe_int set_list))) pss_nil)
        (pss_cons (ps_set (i := 7) scTab.nd rfl (.inl rfl) (pe_bm PySem.F.plainAttrs_list PySem.F.slot_list_pop PySem.F.type_list_pop mt_popAt (pv 4) (pa_cons (pe_c cTake hr (by omega) rfl (pa_cons (pv 0) (pa_cons (pe_callB call_len_seq (by rfl) T.len PySem.boot_len (pa_cons (pv 4) pa_nil)) pa_nil))) pa_nil)))
        (pss_one (ps_if (PW.pt (pw_and (pt_cmpR op_lt (pv 3) pe_int (nomark _)) (pw_and (pt_cmpR op_gt (pe_ix ix_list (pv 2) pe_int (fun _ _ => rfl)) pe_int (nomark _)) (pw_and1 (pt_cmpR op_lt (pe_c cTake hr (by omega) rfl (pa_cons (pv 0) (pa_cons pe_int pa_nil))) pe_int (nomark _)))))) pbr
          (pss_one (ps_expr (pe_bm PySem.F.plainAttrs_list PySem.F.slot_list_append PySem.F.type_list_append mt_append (pv 5) (pa_cons (pe_lst (pa_cons (pv 7) (pa_cons (pe_c cOf hr h2 rfl (pa_cons (pv 0) (pa_cons (pe_lst (pa_cons pe_str (pa_cons pe_str (pa_cons pe_str pa_nil)))) pa_nil))) pa_nil))) pa_nil))))))))))
      (pss_one (ps_ret (pe_lst (pa_cons (pe_c cOf hr h2 rfl (pa_cons (pv 0) (pa_cons (pe_lst (pa_cons pe_str (pa_cons pe_str (pa_cons pe_str pa_nil)))) pa_nil))) (pa_cons (pv 5) pa_nil))))))), ?_⟩
    refine ⟨fun σ H1 => ∃ KL EL, σ = [some (.ref a), some (.ref wl), some (.ref lf), some (.int (lv : Nat)), some (.ref KL), some (.ref EL), none, none] ∧ TbSt K n H H1 a wl lf KL EL ws ws [] tb bb [] (fun _ => none), ?_, ?_⟩
    · refine ⟨_, rfl, wl, _, rfl, .inl (SqL.of hwl), fun KL hKL => ⟨szle (by simp), fun EL hEL => ⟨_, _, rfl, KL, EL, rfl, ?_⟩⟩⟩
      have g1 : But (fun _ => False) H (upd H KL (.lst (ws.map V.str))) := But.new hKL
      have nKE : KL ≠ EL := ne_of_none (show upd H KL (.lst (ws.map V.str)) KL = some _ from upd_same) hEL
      have g2 := g1.trans (But.new (o := .lst []) hEL)
      exact ⟨SrcAt.but S g2, g2 _ _ hwl id, g2 _ _ hlf id, by rw [upd_ne nKE]; exact upd_same, upd_same, .nil, fun _ _ h => (nomatch h), fun _ _ => rfl, rfl, rfl, hKL, g1.free hEL, nKE, S, by rw [hwl]; simp, by rw [hlf]; simp, n1, n2, n3, g2.mono fun _ h => h.elim⟩
    rintro σ H1 ⟨KL, EL, rfl, T1⟩
    refine ⟨fun σ H2 => ∃ (ks : List Str) (es : List (Str × Tr n)) (t1 b1 : Nat) (vs : List V) (G : Hp) (x6 x7 : Option V), σ = [some (.ref a), some (.ref wl), some (.ref lf), some (.int (lv : Nat)), some (.ref KL), some (.ref EL), x6, x7] ∧ TbSt K n H H2 a wl lf KL EL ws ks es t1 b1 vs G ∧ KsSt n ks es ∧ es ≠ [] ∧ es.length ≤ 3 ∧ (es.map fun e => Tr.nt n e.2).sum + t1 = tb ∧ (es.map fun e => Tr.nb n e.2).sum + b1 = bb + 1, ?_, ?_⟩
    · refine ⟨_, rfl, a, 3, rfl, by decide, by decide, T1.src, fun r c st m r0 r1 => ⟨_, _, rfl, rfl, ?_⟩⟩
      obtain ⟨q, rfl⟩ := Int.eq_ofNat_of_zero_le r0
      have T2 := T1.draw c st m
      generalize upd H1 a (src c st m) = H2 at T2 ⊢
      have hq : q ≤ 2 := by omega
      refine ⟨_, rfl, by omega, by omega, for_range (lo := 0) (n := (1 + (q : Int)).toNat) (fun i σ H3 => ∃ (ks : List Str) (es : List (Str × Tr n)) (t1 b1 : Nat) (vs : List V) (G : Hp) (x6 x7 : Option V), σ = [some (.ref a), some (.ref wl), some (.ref lf), some (.int (lv : Nat)), some (.ref KL), some (.ref EL), x6, x7] ∧ TbSt K n H H3 a wl lf KL EL ws ks es t1 b1 vs G ∧ KsSt n ks es ∧ es.length = i ∧ ks.length + i = ws.length ∧ (es.map fun e => Tr.nt n e.2).sum + t1 = tb ∧ (es.map fun e => Tr.nb n e.2).sum + b1 = bb + min i 1)
        ⟨ws, [], tb, bb, [], _, none, none, rfl, T2, ⟨by simpa using wnd, wk, by simp⟩, rfl, by omega, by simp, by simp⟩ ?_ ?_⟩
      · rintro i σ H3 hi ⟨ks, es, t1, b1, vs, G, x6, x7, rfl, T3, S3, le, lk, snt, snb⟩
        have hi3 : i < 3 := by omega
        have lvs : vs.length = i := by rw [DpAll.len T3.dp, List.length_map, le]
        refine ⟨fun σ H4 => σ = [some (.ref a), some (.ref wl), some (.ref lf), some (.int (lv : Nat)), some (.ref KL), some (.ref EL), some (.int (0 + (i : Int))), x7] ∧ H4 = H3 ∧ (0 < i → 1 ≤ b1), ?_, ?_⟩
        · refine ⟨_, rfl, _, _, rfl, rfl, _, rfl, ?_⟩
          by_cases hp : 0 < i
          · rw [decide_eq_true (by omega)]
            refine iteT ⟨_, rfl, lf, _, _, _, rfl, rfl, SqL.of T3.elf, rfl, rfl, _, rfl, ?_⟩
            by_cases hz : b1 = 0
            · rw [decide_eq_true (by rw [hz]; rfl)]
              refine iteT ⟨ks, es, t1, b1, vs, G, _, _, rfl, T3, S3, fun e => ?_, by omega, snt, by omega⟩
              rw [e] at le
              simp at le
              omega
            · rw [decide_eq_false (fun e => hz (by injection e with e; omega))]
              exact iteF ⟨rfl, rfl, fun _ => by omega⟩
          · rw [decide_eq_false (by omega)]
            exact iteF ⟨rfl, rfl, fun h => absurd h hp⟩
        rintro σ H4 ⟨rfl, rfl, hpos⟩
        refine ⟨fun σ H5 => ∃ b2, σ = [some (.ref a), some (.ref wl), some (.ref lf), some (.int (lv : Nat)), some (.ref KL), some (.ref EL), some (.int (0 + (i : Int))), x7] ∧ TbSt K n H H5 a wl lf KL EL ws ks es t1 b2 vs G ∧ (es.map fun e => Tr.nb n e.2).sum + b2 = bb, ?_, ?_⟩
        · refine ⟨_, rfl, _, _, rfl, rfl, _, rfl, ?_⟩
          by_cases hp : 0 < i
          · rw [decide_eq_true (by omega)]
            refine iteT ⟨_, rfl, lf, _, _, _, rfl, rfl, SqL.of T3.elf, rfl, _, _, rfl, rfl, _, rfl, lf, _, _, 1, rfl, rfl, T3.elf, rfl, b1 - 1, rfl, ?_, ?_⟩
            · have e1 : ((b1 : Int) - 1) = ((b1 - 1 : Nat) : Int) := by have := hpos hp; omega
              show TbSt K n H (upd _ lf (.lst [.int (t1 : Nat), .int ((b1 : Int) - 1)])) a wl lf KL EL ws ks es t1 (b1 - 1) vs G
              rw [e1]
              exact T3.left t1 (b1 - 1)
            · have := hpos hp
              have : min i 1 = 1 := by omega
              omega
          · rw [decide_eq_false (by omega)]
            exact iteF ⟨b1, rfl, T3, by have : min i 1 = 0 := by omega
                                        omega⟩
        rintro σ H5 ⟨b2, rfl, T5, snb5⟩
        refine ⟨_, rfl, .inl ⟨rfl, _, SqL.of T5.kl⟩, _, rfl, _, rfl, KL, _, rfl, .inl (SqL.of T5.kl), a, ((ks.length : Nat) : Int), by rw [List.length_map]; rfl, by omega, log_small (by omega), T5.src, fun r c st m r0 r1 => ?_⟩
        obtain ⟨j, rfl⟩ := Int.eq_ofNat_of_zero_le r0
        have hj : j < ks.length := by omega
        have hkj : ks[j]? = some ks[j] := List.getElem?_eq_getElem hj
        have T6 := T5.draw c st m
        generalize upd H5 a (src c st m) = H6 at T6 ⊢
        refine ⟨KL, _, _, j, V.str ks[j], rfl, rfl, T6.kl, by omega, by omega, seq_ix (by rw [List.length_map]; exact hj), by rw [List.getElem?_map, hkj]; rfl, ?_⟩
        have T7 := T6.pop j
        generalize upd H6 KL (.lst ((ks.map V.str).eraseIdx j)) = H7 at T7 ⊢
        have lk7 : (ks.eraseIdx j).length + (i + 1) = ws.length := by rw [List.length_eraseIdx_of_lt hj]; omega
        -- the branch of a bag
        have bag : ∀ H8, TbSt K n H H8 a wl lf KL EL ws (ks.eraseIdx j) es t1 b2 vs G → tDrop (tBM K "list" rAppend (tVar 5) (tCons (tLst (tCons (tVar 7) (tCons (tCall (spOf K) [] E0 (tCons (tVar 0) (tCons (tLst (tCons (tC (V.str "*")) (tCons (tC (V.str "*")) (tCons (tC (V.str "!")) tNil)))) tNil))) tNil))) tNil))
            { nx := fun σ H3 => ∃ (ks : List Str) (es : List (Str × Tr n)) (t1 b1 : Nat) (vs : List V) (G : Hp) (x6 x7 : Option V), σ = [some (.ref a), some (.ref wl), some (.ref lf), some (.int (lv : Nat)), some (.ref KL), some (.ref EL), x6, x7] ∧ TbSt K n H H3 a wl lf KL EL ws ks es t1 b1 vs G ∧ KsSt n ks es ∧ es.length = i + 1 ∧ ks.length + (i + 1) = ws.length ∧ (es.map fun e => Tr.nt n e.2).sum + t1 = tb ∧ (es.map fun e => Tr.nb n e.2).sum + b1 = bb + min (i + 1) 1, rt := Q }
            [some (.ref a), some (.ref wl), some (.ref lf), some (.int (lv : Nat)), some (.ref KL), some (.ref EL), some (.int (0 + (i : Int))), some (.str ks[j])] H8 := by
          intro H8 T8
          refine ⟨_, rfl, .inl ⟨rfl, _, SqL.of T8.el⟩, _, rfl, _, rfl, szle (by simp), fun ml hml => ?_⟩
          have nam : a ≠ ml := ne_none (src_ne' T8.src) hml
          refine ⟨a, ml, _, rfl, T8.src.upd nam, SqL.of upd_same, nam, by simp, by simp, fun i' v c st m hv => ⟨szle (by simp), fun p hp => ?_⟩⟩
          obtain ⟨kd, rfl, hkd⟩ : ∃ kd, v = V.str kd ∧ kd ∈ kinds := by
            have hm := List.mem_of_getElem? hv
            simp only [List.mem_cons, List.not_mem_nil, or_false] at hm
            rcases hm with e | e | e
            · exact ⟨_, e, by decide +kernel⟩
            · exact ⟨_, e, by decide +kernel⟩
            · exact ⟨_, e, by decide +kernel⟩
          have b8 : But (fun x => x = a ∨ x = lf) H8 (upd (upd H8 ml (.lst [.str "*", .str "*", .str "!"])) a (src c st m)) := (But.new hml).trans (But.at (.inl rfl))
          have aE := ne_none (src_ne' T8.ha) T8.nE
          have lE := ne_none T8.hl T8.nE
          have el9 : (upd (upd H8 ml (.lst [.str "*", .str "*", .str "!"])) a (src c st m)) EL = some (.lst vs) := b8 _ _ T8.el fun e => e.elim (fun e => aE e.symm) (fun e => lE e.symm)
          have lf9 : (upd (upd H8 ml (.lst [.str "*", .str "*", .str "!"])) a (src c st m)) lf = some (.lst [.int (t1 : Nat), .int (b2 : Nat)]) := by
            rw [upd_ne T8.n2.symm, upd_ne (ne_of_none T8.elf hml)]
            exact T8.elf
          have ok : Tr.Ok n (Tr.bag kd) := by rw [Tr.ok_bag]; exact hkd
          have fw : Tr.Few n (Tr.bag kd) := by rw [Tr.few_bag]; trivial
          refine ⟨EL, vs, .ref p, rfl, rfl, by rw [upd_ne (ne_of_none el9 hp)]; exact el9, szl (by omega), ks.eraseIdx j, es ++ [(ks[j], Tr.bag kd)], t1, b2, _, _, _, _, rfl, T8.push (G2 := fun _ => none) (t := Tr.bag kd) b8 ⟨c, st, m, upd_same⟩ lf9 (fun _ _ h => (nomatch h)) (fun _ _ => rfl) (by rw [Tr.dat_bag]; exact .str kd) hp, S3.step hkj ok fw, by rw [List.length_append, le]; rfl, lk7, ?_, ?_⟩
          · rw [List.map_append, List.sum_append, List.map_singleton]
            simp only [List.sum_singleton]
            rw [Tr.nt_bag]
            omega
          · rw [List.map_append, List.sum_append, List.map_singleton]
            simp only [List.sum_singleton]
            rw [Tr.nb_bag]
            omega
        refine ⟨_, rfl, _, _, rfl, rfl, _, rfl, ite2 (fun h4 => ?_) (fun _ => bag _ T7)⟩
        refine ⟨_, rfl, lf, _, _, _, rfl, rfl, SqL.of T7.elf, rfl, _, _, rfl, rfl, _, rfl, ite2 (fun h0 => ?_) (fun _ => bag _ T7)⟩
        refine ⟨_, rfl, a, 5, rfl, by decide, by decide, T7.src, fun r c st m r0 r1 => ⟨_, _, rfl, rfl, _, rfl, ite2 (fun _ => ?_) (fun _ => bag _ (T7.draw c st m))⟩⟩
        have h4' : lv < 4 := by
          have := of_decide_eq_true h4
          omega
        have h0' : 1 ≤ t1 := by
          have := of_decide_eq_true h0
          omega
        refine hb _ H _ a wl lf KL EL ws _ es t1 b2 lv vs G _ _ (by omega) h4' (T7.draw c st m) h0' (by omega) (by omega) w3 w20 wnd wk (by omega) fun t t2 b3 H9 v G' T9 ok fw ent enb => ?_
        refine ⟨ks.eraseIdx j, es ++ [(ks[j], t)], t2, b3, _, _, _, _, rfl, T9, S3.step hkj ok fw, by rw [List.length_append, le]; rfl, lk7, ?_, ?_⟩
        · rw [List.map_append, List.sum_append, List.map_singleton]
          simp only [List.sum_singleton]
          omega
        · rw [List.map_append, List.sum_append, List.map_singleton]
          simp only [List.sum_singleton]
          omega
      · rintro σ H3 ⟨ks, es, t1, b1, vs, G, x6, x7, rfl, T3, S3, le, lk, snt, snb⟩
        refine ⟨ks, es, t1, b1, vs, G, x6, x7, rfl, T3, S3, fun e => ?_, by omega, snt, ?_⟩
        · rw [e] at le
          simp at le
          omega
        · have : min (1 + (q : Int)).toNat 1 = 1 := by omega
          omega
    rintro σ H2 ⟨ks, es, t1, b1, vs, G, x6, x7, rfl, T2, S2, ne, l3, snt, snb⟩
    refine ⟨_, rfl, szle (by simp), fun ml hml => ?_⟩
    have nam : a ≠ ml := ne_none (src_ne' T2.src) hml
    refine ⟨a, ml, _, rfl, T2.src.upd nam, SqL.of upd_same, nam, by simp, by simp, fun i' v c st m hv => ⟨_, rfl, szle (by simp), fun p hp => ?_⟩⟩
    obtain ⟨md, rfl, hmd⟩ : ∃ md, v = V.str md ∧ md ∈ modes := by
      have hm := List.mem_of_getElem? hv
      simp only [List.mem_cons, List.not_mem_nil, or_false] at hm
      rcases hm with e | e | e
      · exact ⟨_, e, by decide +kernel⟩
      · exact ⟨_, e, by decide +kernel⟩
      · exact ⟨_, e, by decide +kernel⟩
    have b3 : But (fun x => x = a ∨ x = lf) H2 (upd (upd H2 ml (.lst [.str "live", .str "copy", .str "kept"])) a (src c st m)) := (But.new hml).trans (But.at (.inl rfl))
    have aE := ne_none (src_ne' T2.ha) T2.nE
    have lE := ne_none T2.hl T2.nE
    have el3 : (upd (upd H2 ml (.lst [.str "live", .str "copy", .str "kept"])) a (src c st m)) EL = some (.lst vs) := b3 _ _ T2.el fun e => e.elim (fun e => aE e.symm) (fun e => lE e.symm)
    have lf3 : (upd (upd H2 ml (.lst [.str "live", .str "copy", .str "kept"])) a (src c st m)) lf = some (.lst [.int (t1 : Nat), .int (b1 : Nat)]) := by
      rw [upd_ne T2.n2.symm, upd_ne (ne_of_none T2.elf hml)]
      exact T2.elf
    have part3 : Part G (upd (upd H2 ml (.lst [.str "live", .str "copy", .str "kept"])) a (src c st m)) := T2.part.but b3 fun x hx => hx.elim (fun e => e ▸ T2.fr a (src_ne' T2.ha)) (fun e => e ▸ T2.fr lf T2.hl)
    have src3 : SrcAt (upd (upd H2 ml (.lst [.str "live", .str "copy", .str "kept"])) a (src c st m)) a := ⟨c, st, m, upd_same⟩
    have g3 := T2.g.trans b3
    generalize upd (upd H2 ml (.lst [.str "live", .str "copy", .str "kept"])) a (src c st m) = H3 at b3 el3 lf3 part3 src3 g3 hp ⊢
    have pE := ne_of_none el3 hp
    have pL := ne_of_none lf3 hp
    have pA : a ≠ p := ne_none (src_ne' src3) hp
    have hp0 : H p = none := by
      cases e : H p with
      | none => rfl
      | some o =>
        rw [g3 p o e fun q => q.elim (fun q => pA q.symm) (fun q => pL q.symm)] at hp
        cases hp
    have partE : Part (upd G EL (.lst vs)) H3 := part3.add el3
    have gp : (upd G EL (.lst vs)) p = none := by rw [upd_ne pE.symm]; exact part3.free hp
    refine kk (.ref p) (Tr.tab md es) t1 b1 (upd (upd G EL (.lst vs)) p (.lst [.str md, .ref EL])) _ rfl ⟨hmd, ne, ?_, fun e he => ⟨(S2.ok e he).1, (S2.ok e he).2.1⟩⟩ ⟨l3, fun e he => (S2.ok e he).2.2⟩ ?_ ?_ ?_ partE.both (fun x hx => ?_) (src3.upd pA) (by rw [upd_ne pL]; exact lf3) (g3.fresh hp0)
    · exact DiffBy.of ((List.nodup_append.mp S2.nd).1)
    · rw [Tr.nt_tab]
      omega
    · rw [Tr.nb_tab]
      omega
    · refine .lst (SqL.of upd_same) (.cons (.str md) (.cons (.lst (SqL.of (by rw [upd_ne pE]; exact upd_same)) ?_) .nil))
      exact DpAll.part ((Part.refl.upd T2.gE).trans (Part.refl.upd gp)) _ _ T2.dp
    · rw [upd_ne (ne_none hx hp0), upd_ne (ne_none hx T2.nE)]
      exact T2.fr x hx
end
end K03

set_option Elab.async false
set_option linter.all false
set_option maxRecDepth 100000
set_option maxHeartbeats 4000000
set_option pp.maxSteps 500
namespace K03
open PySem L2 L2.G42
open Evl (pss_cut)
open PyProof.Rows (boot_isinstance boot_int boot_bool boot_list boot_set boot_abs boot_enumerate boot_tuple boot_str boot_all)
abbrev sLToks : Stmt := top 23
abbrev NLToks : List Str := ["_law_item", "_law_found", "_law_k", "_law_entry"]
theorem scLToks : FnScope NLToks ["_law_item"] (defScope sLToks) := ⟨rfl, rfl, rfl, by decide +kernel, rfl, by decide +kernel, by decide +kernel⟩
section
variable {P : Program} {w : World} {K : PySem.W.Frag} {mg : Str → Option Value} {base : Heap} {f : Addr}
theorem ok_toks0 {fd : FuncData} (F : Fun K "_law_tokens" "_law_tokens" sLToks f fd) (T : Bn mg) : FnOk P w K mg base CX0 1 f fd ["_law_item"] (spToksT K 0) := by
  refine F.ok scLToks (fun vs H Q E h => ?_) (fun cdv A outer s H vs Q E hr h => ?_)
  · obtain ⟨v, t, rfl, _⟩ := h
    rfl
  · obtain ⟨v, t, rfl, hd, few, k⟩ := h
    refine ⟨_, (pss_cons (ps_if (pt_val (pe_callB call_isi (by rfl) T.isi boot_isinstance (pa_cons (pv 0) (pa_cons (pe_bltn (v := .ty "str") (by rfl) T.str boot_str rfl) pa_nil)))) (pss_one (ps_ret (pe_lst (pa_cons (pv 0) pa_nil)))) pss_nil) (pss_cons ps_never pss_never)), ?_⟩
    refine ⟨_, rfl, v, .ty "str", _, _, _, rfl, .ty _, ty_d hd, kit_isStr (Dp.nd hd), _, rfl, ?_⟩
    rw [isStr_dat]
    cases t with
    | inl kd =>
      have hv := dat_bag_inv hd
      subst hv
      exact iteT ⟨_, rfl, szle (by simp), fun p hp => k p _ hp upd_same (But.new hp)⟩
    | inr x => cases x
theorem ok_toksS {j n : Nat} {fd : FuncData} (F : Fun K "_law_tokens" "_law_tokens" sLToks f fd) (T : Bn mg) (hj : 1 ≤ j) (cToks : Cl P w K mg base j "_law_tokens" (spToksT K n) []) : FnOk P w K mg base CX0 (j + 1) f fd ["_law_item"] (spToksT K (n + 1)) := by
  refine F.ok scLToks (fun vs H Q E h => ?_) (fun cdv A outer s H vs Q E hr h => ?_)
  · obtain ⟨v, t, rfl, _⟩ := h
    rfl
  · obtain ⟨v, t, rfl, hd, few, k⟩ := h
    refine ⟨_, (pss_cons (ps_if (pt_val (pe_callB call_isi (by rfl) T.isi boot_isinstance (pa_cons (pv 0) (pa_cons (pe_bltn (v := .ty "str") (by rfl) T.str boot_str rfl) pa_nil)))) (pss_one (ps_ret (pe_lst (pa_cons (pv 0) pa_nil)))) pss_nil)
      (pss_cons (ps_set (i := 1) scLToks.nd rfl (.inl rfl) (pe_lst (pa_cons (pe_ix ix_list (pv 0) pe_int (fun _ _ => rfl)) (pa_cons pe_str pa_nil))))
      (pss_cons (ps_for PassesOwn.never rfl (pi_enum (by rfl) T.enumerate (pa_cons (pe_ix ix_list (pv 0) pe_int (fun _ _ => rfl)) pa_nil)) (pg_tup rfl (pgs_cons (pg_name (i := 2) scLToks.nd rfl (.inl rfl)) (pgs_cons (pg_name (i := 3) scLToks.nd rfl (.inl rfl)) pgs_nil)))
        (pss_cut (ps_if (pt_cmpR op_gt (pv 2) pe_int (nomark _)) (pss_one (ps_expr (pe_bm PySem.F.plainAttrs_list PySem.F.slot_list_append PySem.F.type_list_append mt_append (pv 1) (pa_cons pe_str pa_nil)))) pss_nil)
        (pss_one (ps_expr (pe_bm PySem.F.plainAttrs_list PySem.F.slot_list_extend PySem.F.type_list_extend mt_extend (pv 1) (pa_cons (pe_op op_cat (pe_lst (pa_cons (pe_ix ix_list (pv 3) pe_int (fun _ _ => rfl)) (pa_cons pe_str pa_nil))) (pe_c cToks hr (Nat.le_refl _) rfl (pa_cons (pe_ix ix_list (pv 3) pe_int (fun _ _ => rfl)) pa_nil))) pa_nil))))))
      (pss_one (ps_ret (pe_op op_cat (pv 1) (pe_lst (pa_cons pe_str pa_nil)))))))), ?_⟩
    refine ⟨_, rfl, v, .ty "str", _, _, _, rfl, .ty _, ty_d hd, kit_isStr (Dp.nd hd), _, rfl, ?_⟩
    rw [isStr_dat]
    rcases Tr.tr_cases t with ⟨kd, rfl⟩ | ⟨m, es, rfl⟩
    · have hv := dat_bag_inv hd
      subst hv
      exact iteT ⟨_, rfl, szle (by simp), fun p hp => k p _ hp upd_same (But.new hp)⟩
    · obtain ⟨a0, a1, evs, rfl, s0, s1, da⟩ := dat_tab_inv hd
      have tl := Tr.toks_len (n + 1) (Tr.tab m es) []
      have el := Tr.es_len (m := m) (es := es) (p := [])
      have lev : evs.length = es.length := by rw [DpAll.len da, List.length_map]
      refine iteF ⟨_, rfl, a0, _, _, _, rfl, rfl, s0, rfl, szle (by simp), fun Fa hF => ?_⟩
      have g1 : But (fun _ => False) H (upd H Fa (.lst [.str m, .str "{"])) := But.new hF
      refine ⟨_, rfl, a0, _, _, _, rfl, rfl, SqL.grow s0 g1, rfl, a1, evs, rfl, SqL.grow s1 g1, for_it (walk_enum (xs := evs)) (fun i σ H2 => (∃ x y, σ = [some (.ref a0), some (.ref Fa), x, y]) ∧ H2 Fa = some (.lst ((m :: Str.ofString "{" :: Tr.commas ((es.take i).map Tr.part)).map V.str)) ∧ But (fun _ => False) H H2)
        ⟨⟨_, _, rfl⟩, upd_same, g1⟩ (fun _ _ _ _ h => SqL.grow s1 h.2.2) ?_ ?_⟩
      · rintro i x σ H2 H3 hi ⟨⟨y, z, rfl⟩, h2, g2⟩ ⟨tt, u, vv, rfl, ht, rfl, hu, hv⟩
        injection hu with hu
        subst hu
        obtain ⟨d, hd1, hd2⟩ := DpAll.at da hv
        rw [List.getElem?_map, Option.map_eq_some_iff] at hd1
        obtain ⟨e, ee, rfl⟩ := hd1
        obtain ⟨b, yv, rfl, sb, dy⟩ := ent_inv hd2
        have he := List.mem_of_getElem? ee
        have hrl := Nat.le_trans (Tr.child_len (m := m) he) few
        have ntF : tt ≠ Fa := fun q => by rw [q, h2] at ht; cases ht
        have g3 : But (fun _ => False) H (upd H2 tt (.tup [.int (i : Nat), .ref b])) := g2.trans (But.new ht)
        have h3 : (upd H2 tt (.tup [.int (i : Nat), .ref b])) Fa = _ := (upd_ne ntF.symm).trans h2
        have lpart := Tr.parts_le m es i
        refine ⟨tt, _, rfl, .inl (.inl upd_same), rfl, _, _, rfl, _, _, rfl, rfl, ?_⟩
        refine ⟨fun σ H4 => σ = [some (.ref a0), some (.ref Fa), some (.int (i : Nat)), some (.ref b)] ∧ H4 Fa = some (.lst (((m :: Str.ofString "{" :: Tr.commas ((es.take i).map Tr.part)) ++ (if 0 < i then [Str.ofString ","] else [])).map V.str)) ∧ But (fun _ => False) H H4, ?_, ?_⟩
        · refine ⟨_, rfl, _, _, rfl, rfl, _, rfl, ?_⟩
          by_cases hp : 0 < i
          · rw [decide_eq_true (by omega), if_pos hp]
            refine iteT ⟨_, rfl, .inl ⟨rfl, _, SqL.of h3⟩, Fa, _, _, rfl, rfl, h3, szl ?_, rfl, ?_, g3.fresh hF⟩
            · rw [List.length_map]
              omega
            · rw [upd_same, List.map_append]
              rfl
          · rw [decide_eq_false (by omega), if_neg hp, List.append_nil]
            exact iteF ⟨rfl, h3, g3⟩
        rintro σ H4 ⟨rfl, h4, g4⟩
        refine ⟨_, rfl, .inl ⟨rfl, _, SqL.of h4⟩, _, rfl, b, _, _, _, rfl, rfl, SqL.grow sb g4, rfl, szle (by simp), fun c hc => ?_⟩
        have g5 := g4.trans (But.new (o := .lst [V.str e.1, V.str ":"]) hc)
        refine ⟨_, rfl, b, _, _, _, rfl, rfl, SqL.grow sb g5, rfl, yv, e.2, rfl, Dp.grow dy g5, hrl, fun q H6 hq0 hq g6 => ?_⟩
        have h6c : H6 c = some (.lst [V.str e.1, V.str ":"]) := g6 _ _ upd_same id
        have h6F := g6 _ _ ((upd_ne (ne_of_none h4 hc)).trans h4) id
        have tle := Tr.toks_len n e.2 []
        refine ⟨c, q, _, _, rfl, rfl, h6c, hq, szle ?_, fun r hr' => ⟨Fa, r, _, _, rfl, rfl, by rw [upd_ne (ne_of_none h6F hr')]; exact h6F, upd_same, szle ?_, ⟨_, _, rfl⟩, ?_, ?_⟩⟩
        · rw [List.length_map]
          simp only [List.length_cons, List.length_nil]
          omega
        · rw [List.length_map, List.length_append, List.length_append, List.length_map]
          have : (if 0 < i then [Str.ofString ","] else []).length ≤ 1 := by split <;> simp
          simp only [List.length_cons, List.length_nil] at *
          omega
        · rw [upd_same]
          rw [Tr.parts_step ee]
          simp
        · exact ((g5.trans g6).trans (But.new hr')).fresh hF
      · rintro σ H2 ⟨⟨y, z, rfl⟩, h2, g2⟩
        rw [lev, List.take_length] at h2
        refine ⟨_, rfl, szle (by simp), fun c hc => ⟨Fa, c, _, _, rfl, rfl, by rw [upd_ne (ne_of_none h2 hc)]; exact h2, upd_same, szle ?_, fun p hp => ?_⟩⟩
        · have e1 : (Tr.toks (n + 1) (Tr.tab m es)).length = (m :: Str.ofString "{" :: Tr.commas (es.map Tr.part)).length + 1 := by
            rw [Tr.toks_tab]
            simp only [List.length_cons, List.length_append, List.length_nil]
          rw [List.length_map]
          show _ + 1 ≤ _
          omega
        · have g3 := g2.trans (But.new (o := .lst [V.str "}"]) hc)
          refine k p _ (g3.free hp) (upd_same.trans ?_) (g3.trans (But.new hp))
          show some (HO.lst ((m :: Str.ofString "{" :: Tr.commas (es.map Tr.part)).map V.str ++ [V.str (Str.ofString "}")])) = some (HO.lst ((Tr.toks (n + 1) (Tr.tab m es)).map V.str))
          rw [Tr.toks_tab]
          simp
end
end K03

set_option Elab.async false
set_option linter.all false
set_option maxRecDepth 100000
set_option maxHeartbeats 4000000
set_option pp.maxSteps 500
namespace K03
open PySem L2 L2.G42
open Evl (pss_cut)
open PyProof.Rows (boot_isinstance boot_int boot_bool boot_list boot_set boot_abs boot_enumerate boot_tuple boot_str boot_all)
abbrev sLoose : Stmt := top 24
abbrev NLoose : List Str := ["_law_source_here", "_law_tokens_here", "_law_text", "_law_found", "_law_token"]
theorem scLoose : FnScope NLoose ["_law_source_here", "_law_tokens_here"] (defScope sLoose) := ⟨rfl, rfl, rfl, by decide +kernel, rfl, by decide +kernel, by decide +kernel⟩
section
variable {P : Program} {w : World} {K : PySem.W.Frag} {mg : Str → Option Value} {base : Heap} {f : Addr}
/-- a text of tokens with drawn spaces, not long -/
def spLooseB (K : PySem.W.Frag) : Sp := fun vs H Q _ => ∃ (a tl : Addr) (ts : List Str), vs = [.ref a, .ref tl] ∧ SrcAt H a ∧ SqL K H tl (ts.map V.str) ∧ a ≠ tl ∧ ts.length ≤ 6000 ∧ (∀ t ∈ ts, t.length ≤ 9) ∧
  ∀ (p q : Addr) (ps : List (Nat × List Nat)) (e : Nat) (H' : Hp), ps.map (fun x => tx x.2) = ts → (loose ps e).length ≤ 12 * ts.length + 3 → H p = none → H q = none → H' p = some (.tup [.str (tx (loose ps e)), .ref q]) → H' q = some (.lst ((placed 0 ps).map fun x => V.int (x.1 : Nat))) → SrcAt H' a → But (· = a) H H' → Q (.ref p) H'
theorem ok_loose {fd : FuncData} (F : Fun K "_law_loose" "_law_loose" sLoose f fd) (T : Bn mg) (cTake : Cl P w K mg base 1 "_law_take" spTake []) (cOf : Cl P w K mg base 2 "_law_of" (spOf K) []) : FnOk P w K mg base CX0 3 f fd ["_law_source_here", "_law_tokens_here"] (spLooseB K) := by
  refine F.ok scLoose (fun vs H Q E h => ?_) (fun cdv A outer s H vs Q E hr h => ?_)
  · obtain ⟨a, tl, ts, rfl, _⟩ := h
    rfl
  · obtain ⟨a, tl, ts, rfl, S, htl, nat, l6, l9, k⟩ := h
    refine ⟨_, (pss_cut (ps_par (i := 2) (j := 3) rfl scLoose.nd rfl rfl (by decide) rfl rfl (pa_cons pe_str (pa_cons (pe_lst pa_nil) pa_nil)) (by rfl))
      (pss_cons (ps_for PassesOwn.never rfl (pi_list (pv 1)) (pg_name (i := 4) scLoose.nd rfl (.inl rfl))
        (pss_cut (ps_set (i := 2) scLoose.nd rfl (.inl rfl) (pe_op op_add_str (pv 2) (pe_op op_repS pe_str (pe_c cOf hr (by decide) rfl (pa_cons (pv 0) (pa_cons (pe_lst (pa_cons pe_int (pa_cons pe_int (pa_cons pe_int (pa_cons pe_int pa_nil))))) pa_nil))))))
        (pss_cons (ps_expr (pe_bm PySem.F.plainAttrs_list PySem.F.slot_list_append PySem.F.type_list_append mt_append (pv 3) (pa_cons (pe_callB call_len_str (by rfl) T.len PySem.boot_len (pa_cons (pv 2) pa_nil)) pa_nil)))
        (pss_one (ps_set (i := 2) scLoose.nd rfl (.inl rfl) (pe_op op_add_str (pv 2) (pv 4)))))))
      (pss_one (ps_ret (pe_tup (pa_cons (pe_op op_add_str (pv 2) (pe_op op_repS pe_str (pe_c cTake hr (by decide) rfl (pa_cons (pv 0) (pa_cons pe_int pa_nil))))) (pa_cons (pv 3) pa_nil))))))), ?_⟩
    refine ⟨fun σ H1 => ∃ q, σ = [some (.ref a), some (.ref tl), some (.str (tx [])), some (.ref q), none] ∧ H1 q = some (.lst []) ∧ H q = none ∧ But (fun _ => False) H H1, ?_, ?_⟩
    · exact ⟨szle (by simp), fun q hq => ⟨_, _, rfl, q, rfl, upd_same, hq, But.new hq⟩⟩
    rintro σ H1 ⟨q, rfl, hq, nq, g1⟩
    have naq : a ≠ q := ne_none (src_ne' S) nq
    refine ⟨_, rfl, tl, rfl, ⟨_, SqL.grow htl g1⟩, for_list (xs := ts.map V.str) (fun i σ H2 => ∃ (ps : List (Nat × List Nat)) (x : Option V), σ = [some (.ref a), some (.ref tl), some (.str (tx (loose ps 0))), some (.ref q), x] ∧ ps.map (fun x => tx x.2) = ts.take i ∧ (loose ps 0).length ≤ 12 * i ∧ H2 q = some (.lst ((placed 0 ps).map fun x => V.int (x.1 : Nat))) ∧ (placed 0 ps).length = i ∧ SrcAt H2 a ∧ But (· = a) H H2)
      ⟨[], none, rfl, by simp, by simp [loose], hq, rfl, SrcAt.but S g1, g1.mono fun _ h => h.elim⟩ (fun i σ H2 _ h => ?_) ?_ ?_⟩
    · obtain ⟨ps, x, _, _, _, _, _, _, g2⟩ := h
      exact SqL.but htl g2 fun e => nat e.symm
    · rintro i x σ H2 hx ⟨ps, x4, rfl, em, el, h2, pl, S2, g2⟩
      rw [List.getElem?_map, Option.map_eq_some_iff] at hx
      obtain ⟨t, et, rfl⟩ := hx
      have hi : i < ts.length := by
        rcases Nat.lt_or_ge i ts.length with z | z
        · exact z
        · rw [List.getElem?_eq_none z] at et; cases et
      have lt9 := l9 t (List.mem_of_getElem? et)
      have tlen : t.cps.toList.length = t.length := by
        show _ = t.cps.size
        simp
      have ttx : tx t.cps.toList = t := by
        apply str_ext
        rw [tx_cps]
      refine ⟨fun σ H3 => ∃ s : Nat, s ≤ 3 ∧ σ = [some (.ref a), some (.ref tl), some (.str (tx (loose ps 0 ++ List.replicate s 32))), some (.ref q), some (.str t)] ∧ H3 q = some (.lst ((placed 0 ps).map fun x => V.int (x.1 : Nat))) ∧ SrcAt H3 a ∧ But (· = a) H H3, ?_, ?_⟩
      · refine ⟨_, rfl, _, rfl, szle (by simp), fun ml hml => ?_⟩
        have nam : a ≠ ml := ne_none (src_ne' S2) hml
        refine ⟨a, ml, _, rfl, S2.upd nam, SqL.of upd_same, nam, by simp, by simp, fun i' v c st m hv => ?_⟩
        obtain ⟨s, rfl, hs⟩ : ∃ s : Nat, v = V.int (s : Nat) ∧ s ≤ 3 := by
          have hm := List.mem_of_getElem? hv
          simp only [List.mem_cons, List.not_mem_nil, or_false] at hm
          rcases hm with e | e | e | e
          · exact ⟨0, e, by omega⟩
          · exact ⟨0, e, by omega⟩
          · exact ⟨1, e, by omega⟩
          · exact ⟨3, e, by omega⟩
        refine ⟨s, rfl, rfl, by omega, _, _, rfl, rfl, szle ?_, s, hs, ?_, ?_, ⟨c, st, m, upd_same⟩, (g2.trans (But.new hml)).trans (But.at rfl)⟩
        · rw [tx_len, tx_len, List.length_replicate]
          omega
        · rw [← tx_app]
          rfl
        · rw [upd_ne naq.symm, upd_ne (ne_of_none h2 hml)]
          exact h2
      rintro σ H3 ⟨s, hs, rfl, h3, S3, g3⟩
      have l3 : (loose ps 0 ++ List.replicate s 32).length ≤ 12 * i + 3 := by
        rw [List.length_append, List.length_replicate]
        omega
      refine ⟨_, rfl, .inl ⟨rfl, _, SqL.of h3⟩, _, rfl, _, rfl, szle (by rw [tx_len]; omega), q, _, _, rfl, rfl, h3, szl (by rw [List.length_map]; omega), ?_⟩
      refine ⟨_, rfl, _, rfl, _, _, rfl, rfl, szle (by rw [tx_len]; omega), ps ++ [(s, t.cps.toList)], some (.str t), ?_, ?_, ?_, ?_, ?_, S3.upd naq, g3.fresh nq⟩
      · have e1 : tx (loose ps 0 ++ List.replicate s 32) ++ t = tx (loose (ps ++ [(s, t.cps.toList)]) 0) := by
          rw [loose_snoc, ← tx_app (loose ps 0 ++ List.replicate s 32) t.cps.toList, ttx]
        rw [← e1]
        rfl
      · rw [List.map_append, em, List.take_add_one, et, List.map_singleton]
        show _ ++ [tx t.cps.toList] = _
        rw [ttx]
        rfl
      · rw [loose_snoc, List.length_append, tlen]
        omega
      · rw [upd_same, placed_snoc, List.map_append, tx_len]
        simp
      · rw [placed_snoc, List.length_append, pl]
        rfl
    · rintro σ H2 ⟨ps, x4, rfl, em, el, h2, pl, S2, g2⟩
      rw [List.length_map, List.take_length] at em
      rw [List.length_map] at el
      refine ⟨_, rfl, _, rfl, a, 3, rfl, by decide, by decide, S2, fun r c st m r0 r1 => ?_⟩
      obtain ⟨e, rfl⟩ := Int.eq_ofNat_of_zero_le r0
      refine ⟨e, rfl, rfl, by omega, _, _, rfl, rfl, szle ?_, _, rfl, szle (by simp), fun p hp => ?_⟩
      · rw [tx_len, tx_len, List.length_replicate]
        omega
      · have b3 : But (· = a) H2 (upd H2 a (src c st m)) := But.at rfl
        have h3 : (upd H2 a (src c st m)) q = some (.lst ((placed 0 ps).map fun x => V.int (x.1 : Nat))) := (upd_ne naq.symm).trans h2
        have pa : a ≠ p := fun e => by rw [← e, upd_same] at hp; cases hp
        have hp0 : H p = none := by
          cases e : H p with
          | none => rfl
          | some o => rw [(g2.trans b3) p o e pa.symm] at hp; cases hp
        refine k p q ps e _ em ?_ hp0 nq ?_ (by rw [upd_ne (ne_of_none h3 hp)]; exact h3) (SrcAt.upd ⟨c, st, m, upd_same⟩ pa) ((g2.trans b3).fresh hp0)
        · rw [loose_end, List.length_append, List.length_replicate]
          omega
        · rw [upd_same, loose_end ps e, ← tx_app]
end
end K03

set_option Elab.async false
set_option linter.all false
set_option maxRecDepth 100000
set_option maxHeartbeats 4000000
set_option pp.maxSteps 500
namespace K03
open PySem L2 L2.G42
open Evl (pss_cut)
open PyProof.Rows (boot_isinstance boot_int boot_bool boot_list boot_set boot_abs boot_enumerate boot_tuple boot_str boot_all)
abbrev sLWr : Stmt := top 25
abbrev NLWr : List Str := ["_law_item", "_law_row"]
theorem scLWr : FnScope NLWr ["_law_item"] (defScope sLWr) := ⟨rfl, rfl, rfl, by decide +kernel, rfl, by decide +kernel, by decide +kernel⟩
section
variable {P : Program} {w : World} {K : PySem.W.Frag} {mg : Str → Option Value} {base : Heap} {f : Addr}
theorem ok_written0 {fd : FuncData} (F : Fun K "_law_written" "_law_written" sLWr f fd) (T : Bn mg) : FnOk P w K mg base CX0 1 f fd ["_law_item"] (spShT K true 0) := by
  refine F.ok scLWr (fun vs H Q E h => ?_) (fun cdv A outer s H vs Q E hr h => ?_)
  · obtain ⟨v, t, rfl, _⟩ := h
    rfl
  · obtain ⟨v, t, rfl, hd, ho, few, k⟩ := h
    refine ⟨_, (pss_cons (ps_if (pt_val (pe_callB call_isi (by rfl) T.isi boot_isinstance (pa_cons (pv 0) (pa_cons (pe_bltn (v := .ty "str") (by rfl) T.str boot_str rfl) pa_nil)))) (pss_one (ps_ret (pv 0))) pss_nil) (pss_cons ps_never pss_never)), ?_⟩
    refine ⟨_, rfl, v, .ty "str", _, _, _, rfl, .ty _, ty_d hd, kit_isStr (Dp.nd hd), _, rfl, ?_⟩
    rw [isStr_dat]
    obtain ⟨kd, rfl⟩ := Tr.tr_zero t
    have hv := dat_bag_inv hd
    subst hv
    have kk := k H But.refl
    rw [Tr.srt_bag, shw_bag] at kk
    exact iteT ⟨_, rfl, kk⟩
theorem ok_writtenS {j n : Nat} {fd : FuncData} (F : Fun K "_law_written" "_law_written" sLWr f fd) (T : Bn mg) (hj : 1 ≤ j) (cSh : Cl P w K mg base j "_law_written" (spShT K true n) []) : FnOk P w K mg base CX0 (j + 1) f fd ["_law_item"] (spShT K true (n + 1)) := by
  refine F.ok scLWr (fun vs H Q E h => ?_) (fun cdv A outer s H vs Q E hr h => ?_)
  · obtain ⟨v, t, rfl, _⟩ := h
    rfl
  · obtain ⟨v, t, rfl, hd, ho, few, k⟩ := h
    have hu := hr.units
    refine ⟨_, (pss_cons (ps_if (pt_val (pe_callB call_isi (by rfl) T.isi boot_isinstance (pa_cons (pv 0) (pa_cons (pe_bltn (v := .ty "str") (by rfl) T.str boot_str rfl) pa_nil)))) (pss_one (ps_ret (pv 0))) pss_nil)
      (pss_one (ps_ret (pe_op op_add_str (pe_op op_add_str (pe_op op_add_str (pe_ix ix_list (pv 0) pe_int (fun _ _ => rfl)) pe_str) (pe_join pe_str (pe_lc (own := [("_law_row", 1)]) (g := gName 1) (tt := tYes) rfl scLWr.nd (pi_list (pe_callB (cr_sortLS hu) (by rfl) T.sorted boot_sorted (pa_cons (pe_ix ix_list (pv 0) pe_int (fun _ _ => rfl)) pa_nil))) (blkOk_by (own := [("_law_row", 1)]) (N := NLWr) (sc := defScope sLWr) (by decide +kernel))
        (fun _ _ _ _ _ => (pg_name (i := 1) scLWr.nd rfl (.inl rfl))) (fun _ _ _ _ _ => pts_nil) (fun _ _ _ _ _ => (pe_op op_add_str (pe_op op_add_str (pe_ix (kIxL (K := K) rfl) (pv 1) pe_int (fun _ _ => rfl)) pe_str) (pe_c cSh hr (Nat.le_refl _) rfl (pa_cons (pe_ix (kIxL (K := K) rfl) (pv 1) pe_int (fun _ _ => rfl)) pa_nil))))))) pe_str)))), ?_⟩
    refine ⟨_, rfl, v, .ty "str", _, _, _, rfl, .ty _, ty_d hd, kit_isStr (Dp.nd hd), _, rfl, ?_⟩
    rw [isStr_dat]
    rcases Tr.tr_cases t with ⟨kd, rfl⟩ | ⟨m, es, rfl⟩
    · have hv := dat_bag_inv hd
      subst hv
      have kk := k H But.refl
      rw [Tr.srt_bag, shw_bag] at kk
      exact iteT ⟨_, rfl, kk⟩
    · obtain ⟨a0, a1, evs, rfl, s0, s1, da⟩ := dat_tab_inv hd
      have dif := ho.2.2.1
      have c2 : (Str.ofString ":").length = 1 := by decide +kernel
      have c3 : (Str.ofString "{").length = 1 := by decide +kernel
      have c4 : (Str.ofString "}").length = 1 := by decide +kernel
      have sl := shw_len (b := true) (Tr.ok_srt (n + 1) (Tr.tab m es) ho) []
      rw [Tr.rows_srt _ _ ho, shw_srt dif, Tr.app_len, Tr.app_len, Tr.app_len, c3, c4] at sl
      have sl' : m.length + 1 + (Txt.join "," ((srtBy ltS (·.1) es).map fun e => e.1 ++ ":" ++ shw true n (Tr.srt n e.2))).length + 1 + 10 ≤ 27 * (Tr.rows (n + 1) [] (Tr.tab m es)).length := sl
      refine iteF ?_
      refine ⟨_, rfl, a0, _, _, _, rfl, rfl, s0, rfl, _, _, rfl, rfl, szle ?_, ⟨_, rfl⟩, ?_⟩
      · show m.length + (Str.ofString "{").length ≤ _
        rw [c3]
        omega
      refine ⟨_, rfl, a0, _, _, _, rfl, rfl, s0, rfl, ?_⟩
      dsimp only [tNil]
      refine sort_ents Part.refl s1 da dif fun p zs hp ez dz lz zin => ⟨p, rfl, ⟨_, SqL.of upd_same⟩, fun L hL => ?_⟩
      have g1 : But (fun _ => False) H (upd H p (.lst (zs.map Prod.fst))) := But.new hp
      have hp1 : (upd H p (.lst (zs.map Prod.fst))) p = some (.lst (zs.map Prod.fst)) := upd_same
      generalize upd H p (.lst (zs.map Prod.fst)) = H1 at g1 hp1 hL ⊢
      have elen := Tr.es_len (m := m) (es := es) (p := [])
      refine lc_list (K := K) (a := p) (xs := zs.map Prod.fst) (fun i H2 => H2 L = some (.lst (((zs.take i).map fun z => z.2.1 ++ ":" ++ shw true n (Tr.srt n z.2.2)).map V.str)) ∧ But (fun _ => False) H1 H2)
        ⟨upd_same, But.new hL⟩ (fun i H2 _ h => SqL.of (h.2 _ _ hp1 id)) (fun i x H2 hx h => ?_) (fun H2 h => ?_)
      · obtain ⟨h1, g2⟩ := h
        rw [List.getElem?_map, Option.map_eq_some_iff] at hx
        obtain ⟨z, ee, rfl⟩ := hx
        have hz := List.mem_of_getElem? ee
        obtain ⟨b, yv, eb, sb, dy⟩ := ent_inv (dz z hz)
        have gg := g1.trans g2
        have oz := ho.2.2.2 z.2 (zin z hz)
        have kl := (key_len oz.1).2
        have cl := Tr.child_len (m := m) (zin z hz)
        have sz := shw_len (b := true) (Tr.ok_srt n z.2.2 oz.2) []
        rw [Tr.rows_srt _ _ oz.2] at sz
        rw [eb]
        refine ⟨rfl, _, rfl, b, _, _, _, rfl, rfl, SqL.grow sb gg, rfl, _, _, rfl, rfl, szle (by rw [c2]; omega), _, rfl, b, _, _, _, rfl, rfl, SqL.grow sb gg, rfl, yv, z.2.2, rfl, Dp.grow dy gg, oz.2, by omega, fun H3 g3 => ⟨_, _, rfl, rfl, szle (by rw [Tr.app_len, c2]; omega), _, g3 _ _ h1 id, szl ?_, upd_same.trans ?_, (g2.trans g3).fresh hL⟩⟩
        · rw [List.length_map, List.length_map, List.length_take]
          omega
        · rw [List.take_add_one, ee, List.map_append, List.map_append]
          rfl
      · obtain ⟨h1, g2⟩ := h
        rw [List.length_map, List.take_length] at h1
        have e1 : (zs.map fun z => z.2.1 ++ ":" ++ shw true n (Tr.srt n z.2.2)) = (srtBy ltS (·.1) es).map fun e => e.1 ++ ":" ++ shw true n (Tr.srt n e.2) := by
          rw [← ez, List.map_map]
          rfl
        rw [e1] at h1
        have kk := k H2 (g1.trans g2)
        rw [shw_srt dif] at kk
        have jl : ((((srtBy ltS (·.1) es).map fun e => e.1 ++ ":" ++ shw true n (Tr.srt n e.2)).map (·.length)).sum + ((srtBy ltS (·.1) es).map fun e => e.1 ++ ":" ++ shw true n (Tr.srt n e.2)).length * (Str.ofString ",").length ≤ 16777216) := by
          have h2 := parts_len (b := true) (n := n) (m := m) (es := (srtBy ltS (·.1) es).map fun e => (e.1, Tr.srt n e.2)) (by rw [← Tr.srt_es dif, ← Tr.srt_tab]; exact Tr.ok_srt (n + 1) (Tr.tab m es) ho) []
          rw [List.map_map, List.map_map] at h2
          have h3 : (Tr.rows (n + 1) [] (Tr.tab m ((srtBy ltS (·.1) es).map fun e => (e.1, Tr.srt n e.2)))).length = (Tr.rows (n + 1) [] (Tr.tab m es)).length := by rw [← Tr.srt_es dif, ← Tr.srt_tab]; exact Tr.rows_srt _ _ ho []
          rw [h3] at h2
          have h2' : ((((srtBy ltS (·.1) es).map fun e => e.1 ++ ":" ++ shw true n (Tr.srt n e.2)).map (·.length)).sum) ≤ 27 * (Tr.rows (n + 1) [] (Tr.tab m es)).length := by rw [List.map_map]; exact h2
          have c1 : (Str.ofString ",").length = 1 := by decide +kernel
          rw [c1, List.length_map, srtBy_len]
          omega
        refine ⟨_, L, _, rfl, rfl, .inl (SqL.of h1), jl, _, _, rfl, rfl, szle ?_, _, _, rfl, rfl, szle ?_, ?_⟩
        · show (m ++ Str.ofString "{").length + _ ≤ _
          rw [Tr.app_len, c3]
          omega
        · show (m ++ Str.ofString "{" ++ Txt.join "," ((srtBy ltS (·.1) es).map fun e => e.1 ++ ":" ++ shw true n (Tr.srt n e.2))).length + (Str.ofString "}").length ≤ _
          rw [Tr.app_len, c4]
          rw [Tr.app_len, c3]
          omega
        · exact kk
end
abbrev NLFm : List Str := ["_law_item", "_law_row"]
section
variable {P : Program} {w : World} {K : PySem.W.Frag} {mg : Str → Option Value} {base : Heap} {f : Addr}
end
end K03

set_option Elab.async false
set_option linter.all false
set_option maxRecDepth 100000
set_option maxHeartbeats 4000000
set_option pp.maxSteps 400
namespace K03
open PySem L2 L2.G42
open PyProof.Rows (boot_isinstance boot_int boot_bool boot_list boot_set boot_abs boot_enumerate boot_tuple boot_str boot_all)
abbrev sBEq : Stmt := inClass (top 16) 9
theorem scBEq : FnScope ["self", "other"] ["self", "other"] (defScope sBEq) := ⟨rfl, rfl, rfl, by decide +kernel, rfl, by decide +kernel, by decide +kernel⟩
section
variable {P : Program} {w : World} {K : PySem.W.Frag} {mg : Str → Option Value} {base : Heap} {BK : Addr}
theorem ok_beq {f : Addr} {fd : FuncData} (F : Fun K "__eq__" "Book.__eq__" sBEq f fd) (T : Bn mg) (Bt : BkT K BK) (By : BkTy K BK) (gl : mg "Book" = some (.ref BK)) : FnOk P w K mg base CX0 1 f fd ["self", "other"] (spBEq K BK) := by
  refine F.ok scBEq (fun vs H Q E h => ?_) (fun cdv A outer s H vs Q E hr h => ?_)
  · obtain ⟨b, D, n, t, y, rfl, _⟩ := h
    rfl
  · obtain ⟨b, D, n, t, y, rfl, bt, k⟩ := h
    have hu := hr.units
    have hu1 := Nat.lt_of_le_of_lt (Nat.add_le_add_left (show 1 ≤ 64 by decide) _) hu
    refine ⟨_, pss_one (ps_ret (pe_and (pe_callB call_isi (by rfl) T.isi boot_isinstance (pa_cons (pv 1) (pa_cons (pe_glob (v := .ref BK) rfl gl rfl) pa_nil))) (pe_one (pe_cmpR (op_eqT hu1) (pe_fld (pv 0) rfl) (pe_fld (pv 1) rfl) (nomark _))))), ?_⟩
    obtain ⟨dx, ob⟩ := bt.ob
    rcases k with ⟨c, D', n', t', rfl, ct, k⟩ | ⟨ty, hty, no, k⟩
    · obtain ⟨dy, oc⟩ := ct.ob
      refine ⟨_, rfl, .ref c, .ref BK, _, _, _, rfl, .own _, By.ty oc, By.is, true, rfl, ?_⟩
      exact ⟨_, rfl, b, BK, dx, _, _, rfl, ob, Bt.cl, Bt.nM, rfl, _, rfl, c, BK, dy, _, _, rfl, oc, Bt.cl, Bt.nM, rfl, D, D', _, _, rfl, rfl, .inl bt.ma.at_, .inl ct.ma.at_, k⟩
    · refine ⟨_, rfl, y, .ref BK, _, _, _, rfl, .own _, hty, no.no, false, rfl, ?_⟩
      exact k
end
end K03

set_option Elab.async false
set_option linter.all false
set_option maxRecDepth 100000
set_option maxHeartbeats 4000000
set_option pp.maxSteps 500
namespace K03
open PySem L2 L2.G42
open Evl (pss_cut)
open PyProof.Rows (boot_isinstance boot_int boot_bool boot_list boot_set boot_abs boot_enumerate boot_tuple boot_str boot_all)
abbrev sWants : Stmt := top 26
abbrev sBefore : Stmt := top 27
abbrev sKept : Stmt := top 28
abbrev sSigns : Stmt := top 29
abbrev NWants : List Str := ["_law_tokens_here", "_law_found", "_law_k", "_law_token"]
abbrev NBefore : List Str := ["_law_tokens_here", "_law_k", "_law_found", "_law_depth", "_law_j"]
abbrev NKept : List Str := ["_law_words_here"]
theorem scWants : FnScope NWants ["_law_tokens_here"] (defScope sWants) := ⟨rfl, rfl, rfl, by decide +kernel, rfl, by decide +kernel, by decide +kernel⟩
theorem scBefore : FnScope NBefore ["_law_tokens_here", "_law_k"] (defScope sBefore) := ⟨rfl, rfl, rfl, by decide +kernel, rfl, by decide +kernel, by decide +kernel⟩
theorem scKept : FnScope NKept [] (defScope sKept) := ⟨rfl, rfl, rfl, by decide +kernel, rfl, by decide +kernel, by decide +kernel⟩
theorem scSigns : FnScope [] [] (defScope sSigns) := ⟨rfl, rfl, rfl, by decide +kernel, rfl, by decide +kernel, by decide +kernel⟩
def keptL : List Str := ["live", "copy", "kept", "add", "back", "clear", "def", "either", "end", "for", "in", "like", "new", "or", "repeat", "root", "show", "sync", "use"]
def signsS : Str := ".;()[]<>=+-&^~?/0123456789ABCDEFGHIJKLMNOPQRSTUVWXYZ_@$#'\"|"
def wantsL (ts : List Str) : List Str := (List.range ts.length).map (wl ts)
def spWants (K : PySem.W.Frag) : Sp := fun vs H Q _ => ∃ (tl : Addr) (ts : List Str), vs = [.ref tl] ∧ SqL K H tl (ts.map V.str) ∧ ts.length ≤ 6000 ∧ ∀ (r : Addr) (H' : Hp), H r = none → H' r = some (.lst ((wantsL ts).map V.str)) → But (fun _ => False) H H' → Q (.ref r) H'
def spBefore (K : PySem.W.Frag) : Sp := fun vs H Q _ => ∃ (tl : Addr) (ts : List Str) (k : Nat), vs = [.ref tl, .int (k : Nat)] ∧ SqL K H tl (ts.map V.str) ∧ ts.length ≤ 6000 ∧ k ≤ ts.length ∧ (∃ m r, ts = m :: r ∧ modes.contains m = true) ∧ ∀ (r : Addr) (ls : List Str) (H' : Hp), H r = none → ls = bef (ts.take k).reverse 0 → ls.length ≤ k → H' r = some (.lst (ls.map V.str)) → But (fun _ => False) H H' → Q (.ref r) H'
def spKept : Sp := fun vs H Q _ => vs = [] ∧ ∀ (r : Addr) (H' : Hp), H r = none → H' r = some (.lst (keptL.map V.str)) → But (fun _ => False) H H' → Q (.ref r) H'
def spSigns : Sp := fun vs H Q _ => vs = [] ∧ Q (.str signsS) H
section
variable {P : Program} {w : World} {K : PySem.W.Frag} {mg : Str → Option Value} {base : Heap}
theorem ok_signs {f : Addr} {fd : FuncData} (F : Fun K "_law_signs" "_law_signs" sSigns f fd) : FnOk P w K mg base CX0 1 f fd [] spSigns := by
  refine F.ok scSigns (fun vs H Q E h => ?_) (fun cdv A outer s H vs Q E hr h => ?_)
  · obtain ⟨rfl, _⟩ := h
    rfl
  · obtain ⟨rfl, k⟩ := h
    exact ⟨_, (pss_one (ps_ret pe_str)), k⟩
theorem ok_kept {f : Addr} {fd : FuncData} (F : Fun K "_law_kept" "_law_kept" sKept f fd) : FnOk P w K mg base CX0 1 f fd [] spKept := by
  refine F.ok scKept (fun vs H Q E h => ?_) (fun cdv A outer s H vs Q E hr h => ?_)
  · obtain ⟨rfl, _⟩ := h
    rfl
  · obtain ⟨rfl, k⟩ := h
    refine ⟨_, (pss_cons (ps_set (i := 0) scKept.nd rfl (.inl rfl) (pe_lst (pa_cons pe_str (pa_cons pe_str (pa_cons pe_str (pa_cons pe_str (pa_cons pe_str (pa_cons pe_str (pa_cons pe_str (pa_cons pe_str (pa_cons pe_str (pa_cons pe_str (pa_cons pe_str (pa_cons pe_str pa_nil))))))))))))))
        (pss_one (ps_ret (pe_op op_cat (pv 0) (pe_lst (pa_cons pe_str (pa_cons pe_str (pa_cons pe_str (pa_cons pe_str (pa_cons pe_str (pa_cons pe_str (pa_cons pe_str pa_nil)))))))))))), ?_⟩
    refine ⟨szle (by simp), fun r1 hr1 => ⟨_, rfl, szle (by simp), fun r2 hr2 => ⟨r1, r2, _, _, rfl, rfl, by rw [upd_ne (ne_of_none upd_same hr2)]; exact upd_same, upd_same, szle (by simp), fun rl hrl => ?_⟩⟩⟩
    exact k rl _ (But.free ((But.new hr1).trans (But.new hr2)) hrl) upd_same (((But.new hr1).trans (But.new hr2)).trans (But.new hrl))
theorem ok_wants {f : Addr} {fd : FuncData} (F : Fun K "_law_wants" "_law_wants" sWants f fd) (T : Bn mg) : FnOk P w K mg base CX0 1 f fd ["_law_tokens_here"] (spWants K) := by
  refine F.ok scWants (fun vs H Q E h => ?_) (fun cdv A outer s H vs Q E hr h => ?_)
  · obtain ⟨tl, ts, rfl, _⟩ := h
    rfl
  · obtain ⟨tl, ts, rfl, htl, l6, k⟩ := h
    refine ⟨_, (pss_cut (ps_set (i := 1) scWants.nd rfl (.inl rfl) (pe_lst pa_nil))
        (pss_cons (ps_for PassesOwn.never rfl (pi_enum (by rfl) T.enumerate (pa_cons (pv 0) pa_nil)) (pg_tup rfl (pgs_cons (pg_name (i := 2) scWants.nd rfl (.inl rfl)) (pgs_cons (pg_name (i := 3) scWants.nd rfl (.inl rfl)) pgs_nil)))
        (pss_one (ps_if (pt_cmpR op_eq (pv 2) pe_int (nomark _)) (pss_one (ps_expr (pe_bm PySem.F.plainAttrs_list PySem.F.slot_list_append PySem.F.type_list_append mt_append (pv 1) (pa_cons pe_str pa_nil)))) (pss_one (ps_if (pt_cmpR op_eq (pv 3) pe_str (nomark _)) (pss_one (ps_expr (pe_bm PySem.F.plainAttrs_list PySem.F.slot_list_append PySem.F.type_list_append mt_append (pv 1) (pa_cons pe_str pa_nil)))) (pss_one (ps_if (pt_cmpR op_eq (pv 3) pe_str (nomark _)) (pss_one (ps_expr (pe_bm PySem.F.plainAttrs_list PySem.F.slot_list_append PySem.F.type_list_append mt_append (pv 1) (pa_cons pe_str pa_nil)))) (pss_one (ps_if (pt_cmpR op_in_seq (pe_ix ix_list (pv 0) (pe_op op_sub (pv 2) pe_int) (fun _ _ => rfl)) (pe_lst (pa_cons pe_str (pa_cons pe_str pa_nil))) rfl) (pss_one (ps_expr (pe_bm PySem.F.plainAttrs_list PySem.F.slot_list_append PySem.F.type_list_append mt_append (pv 1) (pa_cons pe_str pa_nil)))) (pss_one (ps_if (pt_cmpR op_eq (pe_ix ix_list (pv 0) (pe_op op_sub (pv 2) pe_int) (fun _ _ => rfl)) pe_str (nomark _)) (pss_one (ps_expr (pe_bm PySem.F.plainAttrs_list PySem.F.slot_list_append PySem.F.type_list_append mt_append (pv 1) (pa_cons pe_str pa_nil)))) (pss_one (ps_expr (pe_bm PySem.F.plainAttrs_list PySem.F.slot_list_append PySem.F.type_list_append mt_append (pv 1) (pa_cons pe_str pa_nil)))))))))))))))
        (pss_one (ps_ret (pv 1))))), ?_⟩
    refine ⟨fun σ H1 => ∃ F, σ = [some (.ref tl), some (.ref F), none, none] ∧ H1 F = some (.lst []) ∧ H F = none ∧ But (fun _ => False) H H1, ⟨szle (by simp), fun F hF => ⟨F, rfl, upd_same, hF, But.new hF⟩⟩, ?_⟩
    rintro σ H1 ⟨F, rfl, hF, nF, g1⟩
    refine ⟨_, rfl, tl, _, rfl, SqL.grow htl g1, for_it (walk_enum (xs := ts.map V.str)) (fun i σ H2 => ∃ x y : Option V, σ = [some (.ref tl), some (.ref F), x, y] ∧ H2 F = some (.lst (((List.range i).map (wl ts)).map V.str)) ∧ But (fun _ => False) H H2)
      ⟨none, none, rfl, hF, g1⟩ (fun i σ H2 _ h => SqL.grow htl (by obtain ⟨_, _, _, _, g⟩ := h; exact g)) ?_ ?_⟩
    · rintro i v σ H2 H3 hi ⟨x, y, rfl, h2, g2⟩ ⟨tt, u, vv, rfl, ht, rfl, hu, hv⟩
      injection hu with hu
      subst hu
      have hv : (ts.map V.str)[i]? = some vv := hv
      rw [List.getElem?_map, Option.map_eq_some_iff] at hv
      obtain ⟨t, et, rfl⟩ := hv
      have hi' : i < ts.length := by
        rcases Nat.lt_or_ge i ts.length with z | z
        · exact z
        · rw [List.getElem?_eq_none z] at et; cases et
      have g3 : But (fun _ => False) H (upd H2 tt (.tup [.int (i : Nat), .str t])) := g2.trans (But.new ht)
      have h3 : (upd H2 tt (.tup [.int (i : Nat), .str t])) F = some (.lst (((List.range i).map (wl ts)).map V.str)) := (But.new (S := fun _ => False) ht) _ _ h2 id
      refine ⟨tt, _, rfl, .inl (.inl upd_same), rfl, _, _, rfl, _, _, rfl, rfl, ?_⟩
      generalize upd H2 tt (.tup [.int (i : Nat), .str t]) = H3 at g3 h3 ⊢
      have fin : ∀ (H4 : Hp) (z : Str), H4 F = some (.lst (((List.range i).map (wl ts)).map V.str)) → But (fun _ => False) H H4 → wl ts i = z → (upd H4 F (.lst (((List.range i).map (wl ts)).map V.str ++ [.str z]))) F = some (.lst (((List.range (i + 1)).map (wl ts)).map V.str)) ∧ But (fun _ => False) H (upd H4 F (.lst (((List.range i).map (wl ts)).map V.str ++ [.str z]))) := fun H4 z e1 e2 e3 => by
        refine ⟨?_, e2.fresh nF⟩
        rw [upd_same, List.range_succ, List.map_append, List.map_append]
        show _ = some (HO.lst (_ ++ [V.str (wl ts i)]))
        rw [e3]
      have len : (((List.range i).map (wl ts)).map V.str).length < sizeLine := szl (by simp; omega)
      refine ⟨_, rfl, rfl, _, rfl, ?_⟩
      by_cases i0 : i = 0
      · rw [decide_eq_true (by rw [i0]; rfl)]
        refine iteT ⟨_, rfl, .inl ⟨rfl, _, SqL.of h3⟩, F, _, _, rfl, rfl, h3, len, _, _, rfl, fin _ _ h3 g3 ?_⟩
        unfold wl
        rw [if_pos i0]
        rfl
      rw [decide_eq_false (fun q => i0 (by injection q with q; exact_mod_cast q))]
      have i1 : i - 1 < ts.length := by omega
      have ewl : wl ts i = wantAt (some ts[i - 1]) t := by
        unfold wl
        rw [if_neg i0, et, List.getElem?_eq_getElem i1]
        rfl
      have hp : atI (ts.map V.str) ((i : Int) - 1) = some (V.str ts[i - 1]) := by
        rw [show ((i : Int) - 1) = ((i - 1 : Nat) : Int) by omega]
        exact atI_nat (by rw [List.getElem?_map, List.getElem?_eq_getElem i1]; rfl)
      refine iteF ⟨_, rfl, rfl, _, rfl, ?_⟩
      by_cases e1 : t = "{"
      · rw [decide_eq_true (by rw [e1])]
        refine iteT ⟨_, rfl, .inl ⟨rfl, _, SqL.of h3⟩, F, _, _, rfl, rfl, h3, len, _, _, rfl, fin _ _ h3 g3 ?_⟩
        rw [ewl]
        exact if_pos e1
      rw [decide_eq_false (fun q => e1 (by injection q))]
      refine iteF ⟨_, rfl, rfl, _, rfl, ?_⟩
      by_cases e2 : t = ":"
      · rw [decide_eq_true (by rw [e2])]
        refine iteT ⟨_, rfl, .inl ⟨rfl, _, SqL.of h3⟩, F, _, _, rfl, rfl, h3, len, _, _, rfl, fin _ _ h3 g3 ?_⟩
        rw [ewl]
        exact (if_neg e1).trans (if_pos e2)
      rw [decide_eq_false (fun q => e2 (by injection q))]
      refine iteF ⟨_, rfl, _, rfl, _, _, rfl, rfl, tl, _, _, _, rfl, rfl, SqL.grow htl g3, hp, szle (by simp), fun c hc => ⟨c, _, rfl, .inl (SqL.of upd_same), rfl, rfl, _, rfl, ?_⟩⟩
      show if inV (.str ts[i - 1]) ((["{", ","] : List Str).map V.str) = true then _ else _
      rw [inV_str]
      have g4 : But (fun _ => False) H (upd H3 c (.lst [.str "{", .str ","])) := g3.trans (But.new hc)
      have h4 : (upd H3 c (.lst [.str "{", .str ","])) F = some (.lst (((List.range i).map (wl ts)).map V.str)) := (But.new (S := fun _ => False) hc) _ _ h3 id
      generalize upd H3 c (.lst [.str "{", .str ","]) = H4 at g4 h4 ⊢
      by_cases e3 : ts[i - 1] = "{" ∨ ts[i - 1] = ","
      · rw [show (["{", ","] : List Str).contains ts[i - 1] = true by rw [List.contains_iff_mem]; simpa using e3]
        refine iteT ⟨_, rfl, .inl ⟨rfl, _, SqL.of h4⟩, F, _, _, rfl, rfl, h4, len, _, _, rfl, fin _ _ h4 g4 ?_⟩
        rw [ewl]
        exact (if_neg e1).trans ((if_neg e2).trans (if_pos e3))
      rw [show (["{", ","] : List Str).contains ts[i - 1] = false by rw [Bool.eq_false_iff]; intro q; exact e3 (by simpa using List.contains_iff_mem.mp q)]
      refine iteF ⟨_, rfl, _, rfl, _, _, rfl, rfl, tl, _, _, _, rfl, rfl, SqL.grow htl g4, hp, rfl, _, rfl, ?_⟩
      by_cases e4 : ts[i - 1] = ":"
      · rw [decide_eq_true (by rw [e4])]
        refine iteT ⟨_, rfl, .inl ⟨rfl, _, SqL.of h4⟩, F, _, _, rfl, rfl, h4, len, _, _, rfl, fin _ _ h4 g4 ?_⟩
        rw [ewl]
        exact (if_neg e1).trans ((if_neg e2).trans ((if_neg e3).trans (if_pos e4)))
      rw [decide_eq_false (fun q => e4 (by injection q))]
      refine iteF ⟨_, rfl, .inl ⟨rfl, _, SqL.of h4⟩, F, _, _, rfl, rfl, h4, len, _, _, rfl, fin _ _ h4 g4 ?_⟩
      rw [ewl]
      exact (if_neg e1).trans ((if_neg e2).trans ((if_neg e3).trans (if_neg e4)))
    · rintro σ H2 ⟨x, y, rfl, h2, g2⟩
      rw [List.length_map] at h2
      exact ⟨_, rfl, k F H2 nF h2 g2⟩
theorem ok_before {f : Addr} {fd : FuncData} (F : Fun K "_law_before" "_law_before" sBefore f fd) (T : Bn mg) : FnOk P w K mg base CX0 1 f fd ["_law_tokens_here", "_law_k"] (spBefore K) := by
  refine F.ok scBefore (fun vs H Q E h => ?_) (fun cdv A outer s H vs Q E hr h => ?_)
  · obtain ⟨tl, ts, k, rfl, _⟩ := h
    rfl
  · obtain ⟨tl, ts, k, rfl, htl, l6, lk, ⟨m0, r0, e0, hm0⟩, kk⟩ := h
    refine ⟨_, (pss_cut (ps_par (i := 2) (j := 3) rfl scBefore.nd rfl rfl (by decide) rfl rfl (pa_cons (pe_lst pa_nil) (pa_cons pe_int pa_nil)) (by rfl))
        (pss_cons (ps_for PassesOwn.never rfl (pi_range3 (by rfl) T.range (pa_cons (pe_op op_sub (pv 1) pe_int) (pa_cons pe_int (pa_cons (pe_un un_neg pe_int) pa_nil)))) (pg_name (i := 4) scBefore.nd rfl (.inl rfl))
        (pss_one (ps_if (pt_cmpR op_eq (pe_ix ix_list (pv 0) (pv 4) (fun _ _ => rfl)) pe_str (nomark _)) (pss_one (ps_set (i := 3) scBefore.nd rfl (.inl rfl) (pe_op op_add (pv 3) pe_int))) (pss_one (ps_if (PW.pt (pw_and (pt_cmpR op_eq (pe_ix ix_list (pv 0) (pv 4) (fun _ _ => rfl)) pe_str (nomark _)) (pw_and1 (pt_cmpR op_eq (pv 3) pe_int (nomark _))))) (pss_one (ps_ret (pv 2))) (pss_one (ps_if (pt_cmpR op_eq (pe_ix ix_list (pv 0) (pv 4) (fun _ _ => rfl)) pe_str (nomark _)) (pss_one (ps_set (i := 3) scBefore.nd rfl (.inl rfl) (pe_op op_sub (pv 3) pe_int))) (pss_one (ps_if (PW.pt (pw_and (pt_cmpR op_eq (pe_ix ix_list (pv 0) (pv 4) (fun _ _ => rfl)) pe_str (nomark _)) (pw_and1 (pt_cmpR op_eq (pv 3) pe_int (nomark _))))) (pss_one (ps_expr (pe_bm PySem.F.plainAttrs_list PySem.F.slot_list_append PySem.F.type_list_append mt_append (pv 2) (pa_cons (pe_ix ix_list (pv 0) (pe_op op_sub (pv 4) pe_int) (fun _ _ => rfl)) pa_nil)))) pss_nil)))))))))
        (pss_one (ps_ret (pv 2))))), ?_⟩
    refine ⟨fun σ H1 => ∃ F, σ = [some (.ref tl), some (.int (k : Nat)), some (.ref F), some (.int 0), none] ∧ H1 F = some (.lst []) ∧ H F = none ∧ But (fun _ => False) H H1, ⟨szle (by simp), fun F hF => ⟨_, _, rfl, F, rfl, upd_same, hF, But.new hF⟩⟩, ?_⟩
    rintro σ H1 ⟨F, rfl, hF, nF, g1⟩
    have en : ((k : Int) - 1 - 0).toNat = k - 1 := by omega
    refine ⟨_, rfl, _, _, rfl, rfl, _, rfl, (k : Int) - 1, 0, -1, k - 1, rfl, by rw [← en]; exact RgC.neg (by omega) (by omega) (by decide) (by decide), ?_⟩
    refine for_rangeC (fun i σ H2 => ∃ (ls : List Str) (d : Nat) (x : Option V), σ = [some (.ref tl), some (.int (k : Nat)), some (.ref F), some (.int (d : Nat)), x] ∧ H2 F = some (.lst (ls.map V.str)) ∧ But (fun _ => False) H H2 ∧ bef (ts.take k).reverse 0 = ls ++ bef (ts.take (k - i)).reverse d ∧ ls.length ≤ i)
      ⟨[], 0, none, rfl, hF, g1, by simp, Nat.le_refl _⟩ ?_ ?_
    · rintro i σ H2 hi ⟨ls, d, x, rfl, h2, g2, eb, ll⟩
      obtain ⟨j, ej, j1, jl⟩ : ∃ j, k - i = j + 1 ∧ 1 ≤ j ∧ j < ts.length := ⟨k - 1 - i, by omega, by omega, by omega⟩
      have ei : ((k : Int) - 1 + (i : Nat) * (-1)) = ((j : Nat) : Int) := by omega
      have er : (ts.take (k - i)).reverse = ts[j] :: (ts.take j).reverse := by
        rw [ej, List.take_add_one, List.getElem?_eq_getElem jl, List.reverse_append]
        rfl
      have ek : k - (i + 1) = j := by omega
      rw [er] at eb
      have hat : atI (ts.map V.str) ((j : Nat) : Int) = some (V.str ts[j]) := atI_nat (by rw [List.getElem?_map, List.getElem?_eq_getElem jl]; rfl)
      have hatp : atI (ts.map V.str) (((j : Nat) : Int) - 1) = some (V.str ts[j - 1]) := by
        rw [show (((j : Nat) : Int) - 1) = ((j - 1 : Nat) : Int) by omega]
        exact atI_nat (by rw [List.getElem?_map, List.getElem?_eq_getElem (by omega)]; rfl)
      have hsq := SqL.grow htl g2
      rw [ei]
      refine ⟨_, rfl, _, rfl, tl, _, _, _, rfl, rfl, hsq, hat, rfl, _, rfl, ?_⟩
      by_cases e1 : ts[j] = "}"
      · rw [decide_eq_true (by rw [e1])]
        rw [bef, if_pos e1] at eb
        exact iteT ⟨_, rfl, _, _, rfl, rfl, ls, d + 1, _, rfl, h2, g2, by rw [ek]; exact eb, by omega⟩
      rw [decide_eq_false (fun q => e1 (by injection q))]
      rw [bef, if_neg e1] at eb
      refine iteF ⟨_, rfl, _, rfl, tl, _, _, _, rfl, rfl, hsq, hat, rfl, _, rfl, ?_⟩
      by_cases e2 : ts[j] = "{"
      · rw [decide_eq_true (by rw [e2])]
        rw [if_pos e2] at eb
        refine iteT ⟨_, rfl, rfl, _, rfl, ?_⟩
        by_cases d0 : d = 0
        · rw [decide_eq_true (by rw [d0]; rfl)]
          rw [if_pos d0, List.append_nil] at eb
          exact iteT ⟨_, rfl, kk F ls H2 nF eb.symm (by omega) h2 g2⟩
        · rw [decide_eq_false (fun q => d0 (by injection q with q; exact_mod_cast q))]
          rw [if_neg d0] at eb
          refine iteF ⟨_, rfl, _, rfl, tl, _, _, _, rfl, rfl, hsq, hat, rfl, _, rfl, ?_⟩
          rw [decide_eq_true (by rw [e2])]
          refine iteT ⟨_, rfl, _, _, rfl, rfl, ls, d - 1, some (.int ((j : Nat) : Int)), ?_, h2, g2, by rw [ek]; exact eb, by omega⟩
          rw [show ((d - 1 : Nat) : Int) = (d : Int) - 1 by omega]
          rfl
      rw [decide_eq_false (fun q => e2 (by injection q))]
      rw [if_neg e2] at eb
      refine iteF (iteF ⟨_, rfl, _, rfl, tl, _, _, _, rfl, rfl, hsq, hat, rfl, _, rfl, ?_⟩)
      rw [decide_eq_false (fun q => e2 (by injection q))]
      refine iteF ⟨_, rfl, _, rfl, tl, _, _, _, rfl, rfl, hsq, hat, rfl, _, rfl, ?_⟩
      by_cases e3 : ts[j] = ":"
      · rw [decide_eq_true (by rw [e3])]
        refine iteT ⟨_, rfl, rfl, _, rfl, ?_⟩
        by_cases d0 : d = 0
        · rw [decide_eq_true (by rw [d0]; rfl)]
          rw [if_pos ⟨e3, d0⟩] at eb
          have hh : (ts.take j).reverse.headD "" = ts[j - 1] := by
            obtain ⟨j', rfl⟩ : ∃ j', j = j' + 1 := ⟨j - 1, by omega⟩
            rw [List.take_add_one, List.getElem?_eq_getElem (by omega), List.reverse_append]
            rfl
          rw [hh] at eb
          refine iteT ⟨_, rfl, .inl ⟨rfl, _, SqL.of h2⟩, _, rfl, _, rfl, _, _, rfl, rfl, tl, _, _, _, rfl, rfl, hsq, hatp, F, _, _, rfl, rfl, h2, szl (by rw [List.length_map]; omega), ls ++ [ts[j - 1]], d, _, rfl, ?_, g2.fresh nF, ?_, ?_⟩
          · rw [upd_same, List.map_append]
            rfl
          · rw [ek, eb, List.append_assoc]
            rfl
          · rw [List.length_append]
            simp
            omega
        · rw [decide_eq_false (fun q => d0 (by injection q with q; exact_mod_cast q))]
          rw [if_neg (fun q => d0 q.2)] at eb
          exact iteF ⟨ls, d, _, rfl, h2, g2, by rw [ek]; exact eb, by omega⟩
      · rw [decide_eq_false (fun q => e3 (by injection q))]
        rw [if_neg (fun q => e3 q.1)] at eb
        exact iteF (iteF ⟨ls, d, _, rfl, h2, g2, by rw [ek]; exact eb, by omega⟩)
    · rintro σ H2 ⟨ls, d, x, rfl, h2, g2, eb, ll⟩
      refine ⟨_, rfl, kk F ls H2 nF ?_ (by omega) h2 g2⟩
      rw [eb]
      have hb : bef (ts.take (k - (k - 1))).reverse d = [] := by
        cases k with
        | zero => rfl
        | succ k =>
          rw [show k + 1 - (k + 1 - 1) = 1 by omega, e0]
          obtain ⟨p1, p2, p3⟩ := plain_mode hm0
          show bef [m0] d = []
          rw [bef_plain p1 p2 p3]
          rfl
      rw [hb, List.append_nil]
end
end K03

set_option Elab.async false
set_option linter.all false
set_option maxRecDepth 100000
set_option maxHeartbeats 4000000
set_option pp.maxSteps 500
namespace K03
open PySem L2 L2.G42
open Evl (pss_cut)
open PyProof.Rows (boot_isinstance boot_int boot_bool boot_list boot_set boot_abs boot_enumerate boot_tuple boot_str boot_all)
abbrev sTold : Stmt := top 33
abbrev sLonger : Stmt := top 31
theorem scTold : FnScope ["_law_text", "e", "_law_right"] ["_law_text"] (defScope sTold) := ⟨rfl, rfl, rfl, by decide +kernel, rfl, by decide +kernel, by decide +kernel⟩
abbrev NLonger : List Str := ["_law_source_here", "_law_tokens_here", "_law_text", "_law_starts", "_law_k", "_law_behind"]
theorem scLonger : FnScope NLonger ["_law_source_here", "_law_tokens_here", "_law_text", "_law_starts"] (defScope sLonger) := ⟨rfl, rfl, rfl, by decide +kernel, rfl, by decide +kernel, by decide +kernel⟩
/-- what the written part says of BadBook -/
structure BadT (K : PySem.W.Frag) (mg : Str → Option Value) (B NE BM NP : Addr) : Prop where
  gl : mg "BadBook" = some (.ref B)
  ne : mg "NestedError" = some (.ref NE)
  bm : mg "BadMode" = some (.ref BM)
  np : mg "NoPlace" = some (.ref NP)
  ve : mg "ValueError" = none
  xf : XfC K B
  xd : ExcD K B
  no : PySem.W.findIn K (.ref B) "at" = some none
  te : PySem.W.exmOne K (.ref B) (.ref B) = some true
  kn : PySem.W.kitOne K (.ref B) (.ref NE) = some true
  kv : PySem.W.kitOne K (.ref B) (.type "ValueError") = some true
  kb : PySem.W.kitOne K (.ref B) (.ref BM) = some false
  kp : PySem.W.kitOne K (.ref B) (.ref NP) = some false
def spTold : Sp := fun vs H Q _ => ∃ (z : Str) (pos : Nat), vs = [.str z] ∧ z.length ≤ 90000 ∧ rdWhole (rdStart z) = .error pos ∧ ∀ (r : Addr) (H' : Hp), H r = none → H' r = some (.tup [.int (pos : Nat), .bl true]) → But (fun _ => False) H H' → Q (.ref r) H'
def spOfS : Sp := fun vs H Q _ => ∃ (a : Addr) (z : Str), vs = [.ref a, .str z] ∧ SrcAt H a ∧ 0 < z.length ∧ z.length ≤ 1000 ∧ ∀ (i ch : Nat) (c st n : Int), z.cps.toList[i]? = some ch → Q (.str (tx [ch])) (upd H a (src c st n))
/-- a right text is spoilt -/
def spBad (K : PySem.W.Frag) : Sp := fun vs H Q _ => ∃ (a tl q : Addr) (ts : List Str) (ps : List (Nat × List Nat)) (e : Nat), vs = [.ref a, .ref tl, .str (tx (loose ps e)), .ref q] ∧ SrcAt H a ∧ SqL K H tl (ts.map V.str) ∧ SqL K H q ((placed 0 ps).map fun x => V.int (x.1 : Nat)) ∧ a ≠ tl ∧ a ≠ q ∧ Gd3 ts ps e ∧
  ∀ (r : Addr) (z : Str) (pos : Nat) (H' : Hp), H r = none → rdWhole (rdStart z) = .error pos → z.length ≤ 90000 → H' r = some (.tup [.str z, .int (pos : Nat)]) → SrcAt H' a → But (· = a) H H' → Q (.ref r) H'
theorem ph_mode {c d : Au} {x : Str} (e : c.step x = some d) (hm : modes.contains x = true) : c.ph = .whole ∨ c.ph = .item := by
  cases ep : c.ph with
  | whole => exact .inl rfl
  | item => exact .inr rfl
  | open_ =>
    have := (ph_next e).2.2.1 ep
    rw [this] at hm
    exact absurd hm (by decide +kernel)
  | colon =>
    have := (ph_next e).2.2.2 ep
    rw [this] at hm
    exact absurd hm (by decide +kernel)
  | key =>
    unfold Au.step at e
    rw [ep] at e
    dsimp only at e
    split at e
    · rename_i h
      have : x = "live" ∨ x = "copy" ∨ x = "kept" := by
        unfold modes at hm
        simpa using hm
      rcases this with rfl | rfl | rfl <;> exact absurd h.1 (by decide +kernel)
    · cases e
  | after =>
    obtain ⟨n1, n2, _⟩ := plain_mode hm
    have n4 : x ≠ "," := fun q => by rw [q] at hm; exact absurd hm (by decide +kernel)
    unfold Au.step at e
    rw [ep] at e
    dsimp only at e
    rw [if_neg (fun q => n4 q.1), if_neg n1] at e
    cases e
  | done =>
    unfold Au.step at e
    rw [ep] at e
    cases e
theorem no_len {c d : Au} {x w : Str} (e : c.step x = some d) (hm : modes.contains x = true) (h1 : modes.contains w = false) (h2 : kinds.contains w = false) : c.step w = none := by
  refine no_step ?_
  rcases ph_mode e hm with h | h
  · rw [h]
    show (!modes.contains w) = true
    rw [h1]
    rfl
  · rw [h]
    show (!modes.contains w && !kinds.contains w) = true
    rw [h1, h2]
    rfl
theorem wd_chars {x : Str} (h : wordS x) : Word x.cps.toList := h
section
variable {P : Program} {w : World} {K : PySem.W.Frag} {mg : Str → Option Value} {base : Heap} {BK B NE BM NP : Addr} {mc : Value}
theorem ok_ofS {f : Addr} {fd : FuncData} (F : Fun K "_law_of" "_law_of" sOf f fd) (T : Bn mg) (cTake : Cl P w K mg base 1 "_law_take" spTake []) : FnOk P w K mg base CX0 2 f fd ["_law_source_here", "_law_some"] spOfS := by
  refine F.ok scOf (fun vs H Q E h => ?_) (fun cdv A outer s H vs Q E hr h => ?_)
  · obtain ⟨a, z, rfl, _⟩ := h
    rfl
  · obtain ⟨a, z, rfl, S, h0, h1, k⟩ := h
    refine ⟨_, (pss_one (ps_ret (pe_ix ix_str (pv 1) (pe_c cTake hr (by decide) rfl (pa_cons (pv 0) (pa_cons (pe_callB call_len_str (by rfl) T.len PySem.boot_len (pa_cons (pv 1) pa_nil)) pa_nil))) (fun _ _ => rfl)))), ?_⟩
    refine ⟨_, rfl, _, rfl, _, rfl, z, rfl, szle (by omega), a, _, rfl, by omega, log_small h1, S, fun r c st n r0 r1 => ?_⟩
    obtain ⟨i, rfl⟩ := Int.eq_ofNat_of_zero_le r0
    have hi : i < z.cps.toList.length := by
      have : z.cps.toList.length = z.length := by show _ = z.cps.size; simp
      omega
    exact ⟨z, _, _, rfl, rfl, szle (by omega), atI_nat (List.getElem?_eq_getElem hi), k i _ c st n (List.getElem?_eq_getElem hi)⟩
theorem ok_told {f : Addr} {fd : FuncData} (F : Fun K "_law_told" "_law_told" sTold f fd) (T : Bn mg) (X1 : BadT K mg B NE BM NP) (gl : mg "Book" = some (.ref BK)) (cRead : CmX P w K mg base 15 BK mc "read" (spRead K BK B)) : FnOk P w K mg base CX0 16 f fd ["_law_text"] spTold := by
  refine F.ok scTold (fun vs H Q E h => ?_) (fun cdv A outer s H vs Q E hr h => ?_)
  · obtain ⟨z, pos, rfl, _⟩ := h
    rfl
  · obtain ⟨z, pos, rfl, hz, er, k⟩ := h
    refine ⟨_, (pss_cons (ps_try_as (i := 1) rfl rfl scTold.nd rfl rfl ⟨rfl, by decide, .inl X1.gl⟩ takes0
        (fun W pn xe tk _ => pss_one (ps_expr (pe_cmS cRead tk hr (by decide) (pe_glob (v := .ref BK) rfl gl rfl) (pa_cons (pv 0) pa_nil))))
        (fun a oe cls d pn hz hf => (pss_cons (ps_set (i := 2) scTold.nd rfl (.inl rfl) (pe_and (pe_callB (call_isD X1.xd hz hf) (by rfl) T.isi boot_isinstance (pa_cons (pv 1) (pa_cons (pe_glob (v := .ref NE) rfl X1.ne rfl) pa_nil))) (pe_one (pe_callB (call_isD X1.xd hz hf) (by rfl) T.isi boot_isinstance (pa_cons (pv 1) (pa_cons (pe_bltn (v := .ty "ValueError") (by rfl) X1.ve (by decide +kernel) rfl) pa_nil))))))
          (pss_one (ps_ret (pe_tup (pa_cons (pe_xf X1.xf X1.no hz hf (pv 1)) (pa_cons (pe_and (pv 2) (pe_one (pe_not (pe_callB (call_isDT X1.xd hz hf) (by rfl) T.isi boot_isinstance (pa_cons (pv 1) (pa_cons (pe_tup (pa_cons (pe_glob (v := .ref BM) rfl X1.bm rfl) (pa_cons (pe_glob (v := .ref NP) rfl X1.np rfl) pa_nil))) pa_nil)))))) pa_nil))))))))
        (pss_one (ps_ret pe_non))), ?_⟩
    refine ⟨rfl, _, rfl, .str z, .str z, rfl, .str _, .inr ⟨z, rfl, hz, fun p hp e H' he ee g => ?_, fun s2 es => by rw [er] at es; cases es⟩⟩
    rw [er] at hp
    injection hp with hp
    subst hp
    refine ⟨true, X1.te, fun _ a ha => ?_, fun q => nomatch q⟩
    refine ⟨_, rfl, .ref NE, .ref NE, true, e, _, rfl, rfl, rfl, ee, fun u r => (ClsV.own NE).eq r, X1.kn, true, rfl, ?_⟩
    refine ⟨_, rfl, .ty "ValueError", .type "ValueError", true, e, _, rfl, rfl, rfl, ee, fun u r => r, X1.kv, ?_⟩
    refine ⟨_, rfl, rfl, rfl, e, _, .int (pos : Nat), rfl, ee, by simp [List.lookup], ?_⟩
    refine ⟨_, rfl, true, rfl, _, rfl, szle (by simp), fun q hq => ?_⟩
    refine ⟨q, e, _, [.ref BM, .ref NP], _, false, rfl, rfl, rfl, nu hq ee, upd_same, .cons (.own _) (.cons (.own _) .nil), kitAny_cons X1.kb (fun _ => kitAny_cons X1.kp (fun _ => rfl) (fun h => nomatch h)) (fun h => nomatch h), _, rfl, szle (by simp), fun t1 ht => ?_⟩
    exact k t1 _ (g.free ((But.new hq).free ht)) upd_same ((g.trans (But.new hq)).trans (But.new ht))
theorem ok_longer {f : Addr} {fd : FuncData} (F : Fun K "_law_longer" "_law_longer" sLonger f fd) (T : Bn mg) (cOf : Cl P w K mg base 2 "_law_of" (spOf K) []) (cOfS : Cl P w K mg base 2 "_law_of" spOfS []) : FnOk P w K mg base CX0 3 f fd ["_law_source_here", "_law_tokens_here", "_law_text", "_law_starts"] (spBad K) := by
  refine F.ok scLonger (fun vs H Q E h => ?_) (fun cdv A outer s H vs Q E hr h => ?_)
  · obtain ⟨a, tl, q, ts, ps, e, rfl, _⟩ := h
    rfl
  · obtain ⟨a, tl, q, ts, ps, e, rfl, S, htl, hq, n1, n2, G, kk⟩ := h
    refine ⟨_, (pss_cut (ps_set (i := 4) scLonger.nd rfl (.inl rfl) (pe_c cOf hr (by decide) rfl (pa_cons (pv 0) (pa_cons (pe_lc (own := [("_law_k", 4)]) (g := gName 4) (tt := _) rfl scLonger.nd (pi_range1 (by rfl) T.range (pa_cons (pe_callB call_len_seq (by rfl) T.len PySem.boot_len (pa_cons (pv 1) pa_nil)) pa_nil)) (blkOk_by (own := [("_law_k", 4)]) (N := NLonger) (sc := defScope sLonger) (by decide +kernel)) (fun _ _ _ _ _ => (pg_name (i := 4) scLonger.nd rfl (.inl rfl))) (fun _ _ _ _ _ => (pts_one (pt_cmpR (kIn (K := K) rfl) (pe_ix (kIxL (K := K) rfl) (pv 1) (pv 4) (fun _ _ => rfl)) (pe_lst (pa_cons pe_str (pa_cons pe_str (pa_cons pe_str pa_nil)))) rfl))) (fun _ _ _ _ _ => (pv 4))) pa_nil))))
        (pss_cons (ps_set (i := 5) scLonger.nd rfl (.inl rfl) (pe_op op_add (pe_ix ix_list (pv 3) (pv 4) (fun _ _ => rfl)) pe_int))
        (pss_one (ps_ret (pe_tup (pa_cons (pe_op op_add_str (pe_op op_add_str (pe_slice sl_str (pv 2) po_none (po_some (pv 5))) (pe_c cOfS hr (by decide) rfl (pa_cons (pv 0) (pa_cons pe_str pa_nil)))) (pe_slice sl_str (pv 2) (po_some (pv 5)) po_none)) (pa_cons (pe_ix ix_list (pv 3) (pv 4) (fun _ _ => rfl)) pa_nil))))))), ?_⟩
    have few := G.few
    have nS : ∀ x, H x = none → a ≠ x := fun x hx e => src_ne' S (by rw [e]; exact hx)
    refine ⟨fun σ H1 => ∃ k s t, ps[k]? = some (s, t) ∧ modes.contains (tx t) = true ∧ σ = [some (.ref a), some (.ref tl), some (.str (tx (loose ps e))), some (.ref q), some (.int (k : Nat)), none] ∧ SrcAt H1 a ∧ But (· = a) H H1, ?_, ?_⟩
    · refine ⟨_, rfl, _, rfl, tl, _, rfl, .inl htl, ?_⟩
      rw [List.length_map]
      refine ⟨_, rfl, by omega, by omega, fun D hD => ?_⟩
      refine lc_range (lo := 0) (n := (ts.length : Int).toNat) (fun i H1 => H1 D = some (.lst (((List.range i).filter fun k => modes.contains (ts[k]?.getD "")).map fun k => V.int (k : Nat))) ∧ But (fun _ => False) H H1) ⟨upd_same, But.new hD⟩ (fun i H1 hi h => ?_) (fun H1 h => ?_)
      · obtain ⟨h1, h2⟩ := h
        have hi' : i < ts.length := by simpa using hi
        have hat : atI (ts.map V.str) (0 + (i : Int)) = some (V.str ts[i]) := by
          rw [Int.zero_add]
          exact atI_nat (by rw [List.getElem?_map, List.getElem?_eq_getElem hi']; rfl)
        refine ⟨rfl, _, rfl, _, rfl, tl, _, _, _, rfl, rfl, SqL.grow htl h2, hat, szle (by simp), fun c hc => ⟨c, _, rfl, .inl (SqL.of upd_same), rfl, rfl, _, rfl, ?_⟩⟩
        show if inV (.str ts[i]) (modes.map V.str) = true then _ else _
        rw [inV_str]
        have g3 : But (fun _ => False) H (upd H1 c (.lst [.str "live", .str "copy", .str "kept"])) := h2.trans (But.new hc)
        have h3 : (upd H1 c (.lst [.str "live", .str "copy", .str "kept"])) D = some _ := (But.new (S := fun _ => False) hc) _ _ h1 id
        have stp : (List.range (i + 1)).filter (fun k => modes.contains (ts[k]?.getD "")) = (List.range i).filter (fun k => modes.contains (ts[k]?.getD "")) ++ if modes.contains ts[i] = true then [i] else [] := by
          rw [List.range_succ, List.filter_append]
          congr 1
          rw [List.filter_cons, List.getElem?_eq_getElem hi']
          rfl
        cases hm : modes.contains ts[i] with
        | true =>
          refine iteT ⟨_, rfl, _, h3, szl (by rw [List.length_map]; exact Nat.le_trans (List.length_filter_le _ _) (by rw [List.length_range]; omega)), ?_, g3.fresh hD⟩
          rw [upd_same, stp, if_pos hm, List.map_append, Int.zero_add]
          rfl
        | false =>
          refine iteF ⟨?_, g3⟩
          rw [stp, if_neg (by rw [hm]; exact Bool.false_ne_true), List.append_nil]
          exact h3
      · obtain ⟨h1, h2⟩ := h
        rw [Int.toNat_natCast] at h1
        have nD := nS D hD
        obtain ⟨m0, r0, e0, hm0⟩ := G.hd
        refine ⟨a, D, _, rfl, SrcAt.but S h2, SqL.of h1, nD, ?_, ?_, fun i v c st n hv => ?_⟩
        · rw [List.length_map]
          refine List.length_pos_of_mem (a := 0) (List.mem_filter.mpr ⟨List.mem_range.mpr (by rw [e0]; simp), ?_⟩)
          rw [e0]
          exact hm0
        · rw [List.length_map]
          exact Nat.le_trans (List.length_filter_le _ _) (by rw [List.length_range]; omega)
        · have hv := List.mem_of_getElem? hv
          obtain ⟨k, hk, rfl⟩ := List.mem_map.mp hv
          obtain ⟨hk1, hk2⟩ := List.mem_filter.mp hk
          have hk1 := List.mem_range.mp hk1
          have hk3 : k < ps.length := by rw [G.plen]; exact hk1
          have ep : ps[k]? = some (ps[k].1, ps[k].2) := List.getElem?_eq_getElem hk3
          have := G.at_ ep
          rw [this] at hk2
          exact ⟨k, _, _, ep, hk2, rfl, ⟨_, _, _, upd_same⟩, (h2.mono fun _ z => z.elim).trans (But.at rfl)⟩
    rintro σ H1 ⟨k, s, t, ep, hm, rfl, S1, g1⟩
    have hq1 := SqL.but hq g1 (fun z => n2 z.symm)
    have hst : atI ((placed 0 ps).map fun x => V.int (x.1 : Nat)) (k : Int) = some (V.int (((loose (ps.take k) 0).length + s : Nat) : Int)) := atI_nat (by rw [List.getElem?_map, placed_at (n := 0) ep, Nat.zero_add]; rfl)
    have t4 : t.length = 4 := by
      have := Tr.mode_len (List.contains_iff_mem.mp hm)
      rw [tx_len] at this
      exact this
    have hw : Word t := by
      have := mode_word (List.contains_iff_mem.mp hm)
      unfold wordS at this
      rw [tx_cps] at this
      exact this
    have len := G.len
    have tl1 : ∀ n, ((loose ps e).take n).length ≤ 80000 := fun n => by rw [List.length_take]; omega
    have tl2 : ∀ n, ((loose ps e).drop n).length ≤ 80000 := fun n => by rw [List.length_drop]; omega
    refine ⟨_, rfl, _, rfl, q, _, _, _, rfl, rfl, hq1, hst, _, _, rfl, rfl, ?_⟩
    refine ⟨_, rfl, _, rfl, _, rfl, tx (loose ps e), rfl, szle (by rw [tx_len]; omega), ?_⟩
    have e4 : ((((loose (ps.take k) 0).length + s : Nat) : Int) + 4) = (((loose (ps.take k) 0).length + s + 4 : Nat) : Int) := by omega
    rw [show cutS (tx (loose ps e)) none (some ((((loose (ps.take k) 0).length + s : Nat) : Int) + 4)) = tx ((loose ps e).take ((loose (ps.take k) 0).length + s + 4)) by rw [e4, cut_pre]]
    refine ⟨_, rfl, a, _, rfl, S1, by decide +kernel, by decide +kernel, fun i ch c st n hch => ?_⟩
    have lch : letter ch = true := by
      have : ∀ c ∈ (Str.ofString "abcdefghijklmnopqrstuvwxyz").cps.toList, letter c = true := by decide +kernel
      exact this ch (List.mem_of_getElem? hch)
    have g2 : But (· = a) H (upd H1 a (src c st n)) := g1.trans (But.at rfl)
    have S2 : SrcAt (upd H1 a (src c st n)) a := ⟨_, _, _, upd_same⟩
    have hq2 := SqL.but hq g2 (fun z => n2 z.symm)
    generalize upd H1 a (src c st n) = H2 at g2 S2 hq2 ⊢
    refine ⟨_, _, rfl, rfl, szle (by rw [tx_len, tx_len, List.length_singleton]; have := tl1 ((loose (ps.take k) 0).length + s + 4); omega), ?_⟩
    refine ⟨_, rfl, _, rfl, _, rfl, ?_⟩
    dsimp only [tNoPart]
    refine ⟨tx (loose ps e), rfl, szle (by rw [tx_len]; omega), ?_⟩
    rw [show cutS (tx (loose ps e)) (some ((((loose (ps.take k) 0).length + s : Nat) : Int) + 4)) none = tx ((loose ps e).drop ((loose (ps.take k) 0).length + s + 4)) by rw [e4, cut_suf]]
    obtain ⟨p1, p2⟩ := G.part ep 4 (by omega)
    rw [p1, p2, List.take_of_length_le (l := t) (by omega), List.drop_of_length_le (l := t) (by omega)]
    have lall : (loose (ps.take k) 0).length + s + t.length + (loose (ps.drop (k + 1)) e).length = (loose ps e).length := by
      rw [loose_at e ep]
      simp
      omega
    have ez : tx (loose (ps.take k) 0 ++ (List.replicate s 32 ++ t)) ++ tx [ch] ++ tx ([] ++ loose (ps.drop (k + 1)) e) = tx (loose (ps.take k) 0 ++ (List.replicate s 32 ++ ((t ++ [ch]) ++ loose (ps.drop (k + 1)) e))) := by
      rw [show loose (ps.take k) 0 ++ (List.replicate s 32 ++ ((t ++ [ch]) ++ loose (ps.drop (k + 1)) e)) = (loose (ps.take k) 0 ++ (List.replicate s 32 ++ t)) ++ [ch] ++ ([] ++ loose (ps.drop (k + 1)) e) by simp, tx_app, tx_app]
    refine ⟨_, _, rfl, rfl, szle ?_, ?_⟩
    · rw [tx_app, tx_len, tx_len]
      simp only [List.length_append, List.length_replicate, List.length_singleton, List.length_nil]
      omega
    refine ⟨_, rfl, _, rfl, q, _, _, _, rfl, rfl, hq2, hst, szle (by simp), fun r hr => ?_⟩
    rw [ez]
    obtain ⟨c0, d0, hc0, hd0, _⟩ := G.state ep
    have hW : Word (t ++ [ch]) := ⟨by simp, fun x hx => by
      rcases List.mem_append.mp hx with hx | hx
      · exact hw.2 x hx
      · rw [List.mem_singleton.mp hx]; exact lch⟩
    have l5 : (tx (t ++ [ch])).length = 5 := by rw [tx_len]; simp; omega
    have nm : modes.contains (tx (t ++ [ch])) = false := by
      rw [Bool.eq_false_iff]
      intro z
      have := Tr.mode_len (List.contains_iff_mem.mp z)
      omega
    have nk : kinds.contains (tx (t ++ [ch])) = false := by
      rw [Bool.eq_false_iff]
      intro z
      have := Tr.kind_len (List.contains_iff_mem.mp z)
      omega
    have hfr : H r = none := by
      cases er : H r with
      | none => rfl
      | some o =>
        by_cases ea : r = a
        · obtain ⟨_, _, _, z⟩ := S2
          rw [← ea, hr] at z
          cases z
        · rw [g2 r o er ea] at hr
          cases hr
    refine kk r _ _ _ hfr (G.refuse hc0 (.inl hW) (fun _ => G.behind ep hw) (fun s' t' h1 h2 => .inl (G.before ep hw s' t' h1 h2)) (no_len hd0 hm nm nk)) ?_ upd_same (SrcAt.but S2 (But.new hr)) (g2.trans (But.new hr))
    rw [tx_len]
    simp
    omega
end
end K03

set_option Elab.async false
set_option linter.all false
set_option maxRecDepth 100000
set_option maxHeartbeats 4000000
set_option pp.maxSteps 500
namespace K03
open PySem L2 L2.G42
open Evl (pss_cut)
open PyProof.Rows (boot_isinstance boot_int boot_bool boot_list boot_set boot_abs boot_enumerate boot_tuple boot_str boot_all)
abbrev sInside : Stmt := top 30
abbrev NInside : List Str := ["_law_source_here", "_law_tokens_here", "_law_text", "_law_starts", "_law_spots", "_law_k", "_law_many", "_law_word", "_law_due", "_law_sign"]
theorem scInside : FnScope NInside ["_law_source_here", "_law_tokens_here", "_law_text", "_law_starts"] (defScope sInside) := ⟨rfl, rfl, rfl, by decide +kernel, rfl, by decide +kernel, by decide +kernel⟩
theorem alpha_word {x : Str} (h : Word x.cps.toList ∨ x ∈ (["{", "}", ":", ",", "*", "!"] : List Str)) (ha : Txt.isalpha x = true) : Word x.cps.toList := by
  rcases h with h | h
  · exact h
  · have : ∀ y ∈ (["{", "}", ":", ",", "*", "!"] : List Str), Txt.isalpha y = false := by decide +kernel
    rw [this x h] at ha
    cases ha
theorem alpha_mode {x : Str} (h : modes.contains x = true) : Txt.isalpha x = true := by
  have : ∀ y ∈ modes, Txt.isalpha y = true := by decide +kernel
  exact this x (List.contains_iff_mem.mp h)
theorem sign_word {x : Str} (hw : Word x.cps.toList) : x ≠ "{" ∧ x ≠ "}" ∧ x ≠ ":" ∧ x ≠ "," ∧ kinds.contains x = false := by
  have no : ∀ c : Nat, letter c = false → x.cps.toList ≠ [c] := fun c hc e => by
    have := hw.2 c (by rw [e]; exact List.mem_cons_self)
    rw [hc] at this
    cases this
  refine ⟨fun e => ?_, fun e => ?_, fun e => ?_, fun e => ?_, ?_⟩
  · exact no 123 (by decide) (by rw [e]; decide +kernel)
  · exact no 125 (by decide) (by rw [e]; decide +kernel)
  · exact no 58 (by decide) (by rw [e]; decide +kernel)
  · exact no 44 (by decide) (by rw [e]; decide +kernel)
  · rw [Bool.eq_false_iff]
    intro e
    have : x = "*" ∨ x = "!" := by
      unfold kinds at e
      simpa using e
    rcases this with e | e
    · exact no 42 (by decide) (by rw [e]; decide +kernel)
    · exact no 33 (by decide) (by rw [e]; decide +kernel)
/-- a word that is allowed where no key is wanted is a mode -/
theorem word_mode {c d : Au} {x : Str} (e : c.step x = some d) (hw : Word x.cps.toList) (hk : c.ph ≠ .key) : modes.contains x = true ∧ d.ph = .open_ := by
  obtain ⟨w1, w2, w3, w4, w5⟩ := sign_word hw
  unfold Au.step at e
  cases ep : c.ph with
  | key => exact absurd ep hk
  | whole =>
    rw [ep] at e
    dsimp only at e
    split at e
    · rename_i h
      injection e with e
      subst e
      exact ⟨h.1, rfl⟩
    · cases e
  | item =>
    rw [ep] at e
    dsimp only at e
    split at e
    · rename_i h
      split at e
      · injection e with e
        subst e
        exact ⟨h, rfl⟩
      · cases e
    · rw [if_neg (fun q => by rw [w5] at q; cases q.1)] at e
      cases e
  | open_ =>
    rw [ep] at e
    dsimp only at e
    rw [if_neg w1] at e
    cases e
  | colon =>
    rw [ep] at e
    dsimp only at e
    rw [if_neg w3] at e
    cases e
  | after =>
    rw [ep] at e
    dsimp only at e
    rw [if_neg (fun q => w4 q.1), if_neg w2] at e
    cases e
  | done =>
    rw [ep] at e
    cases e
theorem want_key (p : Ph) : p.want = "key" ↔ p = .key := by cases p <;> decide +kernel
theorem kept_res (x : Str) : keptL.contains x = reserved.contains x := by
  have h1 : ∀ y ∈ keptL, y ∈ reserved := by decide +kernel
  have h2 : ∀ y ∈ reserved, y ∈ keptL := by decide +kernel
  rw [Bool.eq_iff_iff, List.contains_iff_mem, List.contains_iff_mem]
  exact ⟨h1 x, h2 x⟩
/-- where a text with a sign within a word is refused -/
def Due (ps : List (Nat × List Nat)) (k s : Nat) (x : List Nat) (due : Nat) : Prop := ∀ (g : Nat) (rest : List Nat), letter g = false → g ≠ 32 → tx [g] ≠ "{" → tx [g] ≠ ":" → rdWhole (rdStart (tx (loose (ps.take k) 0 ++ (List.replicate s 32 ++ (x ++ g :: rest))))) = .error due
theorem Word.take {t : List Nat} (h : Word t) {m : Nat} (hm : 1 ≤ m) : Word (t.take m) := by
  refine ⟨fun e => ?_, fun c hc => h.2 c (List.mem_of_mem_take hc)⟩
  cases t with
  | nil => exact h.1 rfl
  | cons c t =>
    obtain ⟨m, rfl⟩ : ∃ m', m = m' + 1 := ⟨m - 1, by omega⟩
    cases e
section
variable {ts : List Str} {ps : List (Nat × List Nat)} {e k s m : Nat} {t : List Nat} {c d : Au}
theorem due_first (G : Gd3 ts ps e) (ep : ps[k]? = some (s, t)) (hw : Word t) (hc : Au.start.steps (ts.take k) = some c) (m1 : 1 ≤ m) (hn : c.step (tx (t.take m)) = none) : Due ps k s (t.take m) ((loose (ps.take k) 0).length + s) := fun g rest h1 h2 _ _ =>
  G.refuse hc (.inl (Word.take hw m1)) (fun _ c' r h => by injection h with h; rw [← h]; exact h1) (fun s' t' q1 q2 => .inl (G.before ep hw s' t' q1 q2)) hn
theorem due_sign (G : Gd3 ts ps e) (ep : ps[k]? = some (s, t)) (hw : Word t) (hc : Au.start.steps (ts.take k) = some c) (m1 : 1 ≤ m) (m2 : m ≤ t.length) (hd : c.step (tx (t.take m)) = some d) (hp : d.ph = .open_ ∨ d.ph = .colon) : Due ps k s (t.take m) ((loose (ps.take k) 0).length + s + m) := fun g rest h1 h2 h3 h4 => by
  have := G.refuse2 hc (Word.take hw m1) h1 h2 (rest := rest) (fun s' t' q1 q2 => G.before ep hw s' t' q1 q2) hd (by
    refine no_step ?_
    rcases hp with hp | hp
    · rw [hp]; exact decide_eq_true h3
    · rw [hp]; exact decide_eq_true h4)
  rw [List.length_take, Nat.min_eq_left m2] at this
  exact this
/-- no key is wanted: the word is a mode -/
theorem due_mode (G : Gd3 ts ps e) (ep : ps[k]? = some (s, t)) (hw : Word t) (m1 : 1 ≤ m) (m2 : m ≤ t.length) (hk : wl ts k ≠ "key") : Due ps k s (t.take m) (if m = t.length then (loose (ps.take k) 0).length + s + m else (loose (ps.take k) 0).length + s) := by
  obtain ⟨c, d, hc, hd, hwl⟩ := G.state ep
  have hkey : c.ph ≠ .key := fun q => hk (by rw [hwl, q]; rfl)
  obtain ⟨hm, hp⟩ := word_mode hd (by rw [tx_cps]; exact hw) hkey
  by_cases em : m = t.length
  · rw [if_pos em]
    refine due_sign G ep hw hc m1 m2 (d := d) ?_ (.inl hp)
    rw [em, List.take_length]
    exact hd
  · rw [if_neg em]
    refine due_first G ep hw hc m1 (no_len hd hm ?_ (sign_word (by rw [tx_cps]; exact Word.take hw m1)).2.2.2.2)
    rw [Bool.eq_false_iff]
    intro z
    have l1 := Tr.mode_len (List.contains_iff_mem.mp z)
    have l2 := Tr.mode_len (List.contains_iff_mem.mp hm)
    rw [tx_len, List.length_take] at l1
    rw [tx_len] at l2
    omega
theorem due_key (G : Gd3 ts ps e) (ep : ps[k]? = some (s, t)) (hw : Word t) (m1 : 1 ≤ m) (m2 : m ≤ t.length) (hk : wl ts k = "key") : Due ps k s (t.take m) (if keptL.contains (tx (t.take m)) = true ∨ tx (t.take m) ∈ bef (ts.take k).reverse 0 then (loose (ps.take k) 0).length + s else (loose (ps.take k) 0).length + s + m) := by
  obtain ⟨c, d, hc, hd, hwl⟩ := G.state ep
  have hp : c.ph = .key := (want_key _).mp (by rw [← hwl]; exact hk)
  have hb := bef_keys hc hp (tx (t.take m))
  by_cases hx : keptL.contains (tx (t.take m)) = true ∨ tx (t.take m) ∈ bef (ts.take k).reverse 0
  · rw [if_pos hx]
    refine due_first G ep hw hc m1 ?_
    rcases hx with hx | hx
    · refine no_step ?_
      rw [hp]
      show (!isKey (tx (t.take m))) = true
      rw [kept_res] at hx
      unfold isKey
      rw [hx]
      simp
    · exact key_step hp (hb.mp hx)
  · rw [if_neg hx]
    have hkt : isKey (tx t) = true := by
      have hd' := hd
      unfold Au.step at hd'
      rw [hp] at hd'
      dsimp only at hd'
      split at hd'
      · rename_i h
        exact h.1
      · cases hd'
    have l8 := (key_len hkt).2
    rw [tx_len] at l8
    have hky : isKey (tx (t.take m)) = true := by
      unfold isKey
      rw [tx_cps, tx_len, List.length_take, Nat.min_eq_left m2, decide_eq_true m1, decide_eq_true (by omega : m ≤ 8), ← kept_res]
      have : keptL.contains (tx (t.take m)) = false := Bool.eq_false_iff.mpr fun z => hx (.inl z)
      rw [this]
      show (true && true && (!false && _)) = true
      rw [show (t.take m).all letter = true from List.all_eq_true.mpr (Word.take hw m1).2]
      rfl
    refine due_sign G ep hw hc m1 m2 (d := { c with ph := .colon, way := c.way ++ [(tx (t.take m), under c.ms c.pl + 1)] }) ?_ (.inr rfl)
    unfold Au.step
    rw [hp]
    exact if_pos ⟨hky, fun z => hx (.inr (hb.mpr z))⟩
end
section
variable {P : Program} {w : World} {K : PySem.W.Frag} {mg : Str → Option Value} {base : Heap} {BK B NE BM NP : Addr} {mc : Value}
theorem ok_inside {f : Addr} {fd : FuncData} (F : Fun K "_law_inside" "_law_inside" sInside f fd) (T : Bn mg) (cTake : Cl P w K mg base 1 "_law_take" spTake []) (cOf : Cl P w K mg base 2 "_law_of" (spOf K) []) (cOfS : Cl P w K mg base 2 "_law_of" spOfS []) (cWants : Cl P w K mg base 1 "_law_wants" (spWants K) []) (cBefore : Cl P w K mg base 1 "_law_before" (spBefore K) []) (cKept : Cl P w K mg base 1 "_law_kept" spKept []) (cSigns : Cl P w K mg base 1 "_law_signs" spSigns []) : FnOk P w K mg base CX0 3 f fd ["_law_source_here", "_law_tokens_here", "_law_text", "_law_starts"] (spBad K) := by
  refine F.ok scInside (fun vs H Q E h => ?_) (fun cdv A outer s H vs Q E hr h => ?_)
  · obtain ⟨a, tl, q, ts, ps, e, rfl, _⟩ := h
    rfl
  · obtain ⟨a, tl, q, ts, ps, e, rfl, S, htl, hq, n1, n2, G, kk⟩ := h
    refine ⟨_, (pss_cut (ps_setLc (i := 4) (own := [("_law_k", 5)]) (g := gName 5) (tt := _) rfl scInside.nd rfl rfl (sw_true rfl rfl rfl (by decide +kernel)) (pi_range1 (by rfl) T.range (pa_cons (pe_callB call_len_seq (by rfl) T.len PySem.boot_len (pa_cons (pv 1) pa_nil)) pa_nil)) (blkOk_by (own := [("_law_k", 5)]) (N := NInside) (sc := defScope sInside) (by decide +kernel)) (fun _ _ _ _ _ => (pg_name (i := 5) scInside.nd rfl (.inl rfl))) (fun _ _ _ _ _ => (pts_one (pt_val (pe_m0 PySem.F.slot_str_isalpha PySem.F.type_str_isalpha mt_isalpha (pe_ix (kIxL (K := K) rfl) (pv 1) (pv 5) (fun _ _ => rfl)))))) (fun _ _ _ _ _ => (pv 5)))
        (pss_cut (ps_set (i := 5) scInside.nd rfl (.inl rfl) (pe_c cOf hr (by decide) rfl (pa_cons (pv 0) (pa_cons (pv 4) pa_nil))))
        (pss_cut (ps_set (i := 6) scInside.nd rfl (.inl rfl) (pe_op op_add pe_int (pe_c cTake hr (by decide) rfl (pa_cons (pv 0) (pa_cons (pe_callB call_len_str (by rfl) T.len PySem.boot_len (pa_cons (pe_ix ix_list (pv 1) (pv 5) (fun _ _ => rfl)) pa_nil)) pa_nil)))))
        (pss_cut (ps_par (i := 7) (j := 8) rfl scInside.nd rfl rfl (by decide) rfl rfl (pa_cons (pe_slice sl_str (pe_ix ix_list (pv 1) (pv 5) (fun _ _ => rfl)) po_none (po_some (pv 6))) (pa_cons (pe_op op_add (pe_ix ix_list (pv 3) (pv 5) (fun _ _ => rfl)) (pv 6)) pa_nil)) (by rfl))
        (pss_cut (ps_if (pt_cmpR op_ne (pe_ix ix_list (pe_c cWants hr (by decide) rfl (pa_cons (pv 1) pa_nil)) (pv 5) (fun _ _ => rfl)) pe_str (nomark _)) (pss_one (ps_set (i := 8) scInside.nd rfl (.inl rfl) (pe_ifExp (pt_cmpR op_eq (pv 6) (pe_callB call_len_str (by rfl) T.len PySem.boot_len (pa_cons (pe_ix ix_list (pv 1) (pv 5) (fun _ _ => rfl)) pa_nil)) (nomark _)) (pv 8) (pe_ix ix_list (pv 3) (pv 5) (fun _ _ => rfl))))) (pss_one (ps_if (PW.pt (pw_or (pt_cmpR op_in_seq (pv 7) (pe_c0 cKept hr (by decide) rfl) rfl) (pw_or1 (pt_cmpR op_in_seq (pv 7) (pe_c cBefore hr (by decide) rfl (pa_cons (pv 1) (pa_cons (pv 5) pa_nil))) rfl)))) (pss_one (ps_set (i := 8) scInside.nd rfl (.inl rfl) (pe_ix ix_list (pv 3) (pv 5) (fun _ _ => rfl)))) pss_nil)))
        (pss_cut (ps_set (i := 9) scInside.nd rfl (.inl rfl) (pe_c cOfS hr (by decide) rfl (pa_cons (pv 0) (pa_cons (pe_c0 cSigns hr (by decide) rfl) pa_nil))))
        (pss_one (ps_ret (pe_tup (pa_cons (pe_op op_add_str (pe_op op_add_str (pe_slice sl_str (pv 2) po_none (po_some (pe_op op_add (pe_ix ix_list (pv 3) (pv 5) (fun _ _ => rfl)) (pv 6)))) (pv 9)) (pe_slice sl_str (pv 2) (po_some (pe_op op_add (pe_ix ix_list (pv 3) (pv 5) (fun _ _ => rfl)) (pv 6))) po_none)) (pa_cons (pv 8) pa_nil))))))))))), ?_⟩
    have few := G.few
    have nS : ∀ x, H x = none → a ≠ x := fun x hx e => src_ne' S (by rw [e]; exact hx)
    refine ⟨fun σ H1 => ∃ D, σ = [some (.ref a), some (.ref tl), some (.str (tx (loose ps e))), some (.ref q), some (.ref D), none, none, none, none, none] ∧ H1 D = some (.lst (((List.range ts.length).filter fun k => Txt.isalpha (ts[k]?.getD "")).map fun k => V.int (k : Nat))) ∧ H D = none ∧ But (fun _ => False) H H1, ?_, ?_⟩
    · refine ⟨_, rfl, tl, _, rfl, .inl htl, ?_⟩
      rw [List.length_map]
      refine ⟨_, rfl, by omega, by omega, fun D hD => ?_⟩
      refine lc_range (lo := 0) (n := (ts.length : Int).toNat) (fun i H1 => H1 D = some (.lst (((List.range i).filter fun k => Txt.isalpha (ts[k]?.getD "")).map fun k => V.int (k : Nat))) ∧ But (fun _ => False) H H1) ⟨upd_same, But.new hD⟩ (fun i H1 hi h => ?_) (fun H1 h => ?_)
      · obtain ⟨h1, h2⟩ := h
        have hi' : i < ts.length := by simpa using hi
        have hat : atI (ts.map V.str) (0 + (i : Int)) = some (V.str ts[i]) := by
          rw [Int.zero_add]
          exact atI_nat (by rw [List.getElem?_map, List.getElem?_eq_getElem hi']; rfl)
        refine ⟨rfl, _, rfl, _, rfl, tl, _, _, _, rfl, rfl, SqL.grow htl h2, hat, ⟨_, rfl⟩, ts[i], rfl, rfl, trivial, _, rfl, ?_⟩
        have stp : (List.range (i + 1)).filter (fun k => Txt.isalpha (ts[k]?.getD "")) = (List.range i).filter (fun k => Txt.isalpha (ts[k]?.getD "")) ++ if Txt.isalpha ts[i] = true then [i] else [] := by
          rw [List.range_succ, List.filter_append]
          congr 1
          rw [List.filter_cons, List.getElem?_eq_getElem hi']
          rfl
        cases hm : Txt.isalpha ts[i] with
        | true =>
          refine iteT ⟨_, rfl, _, h1, szl (by rw [List.length_map]; exact Nat.le_trans (List.length_filter_le _ _) (by rw [List.length_range]; omega)), ?_, h2.fresh hD⟩
          rw [upd_same, stp, if_pos hm, List.map_append, Int.zero_add]
          rfl
        | false =>
          refine iteF ⟨?_, h2⟩
          rw [stp, if_neg (by rw [hm]; exact Bool.false_ne_true), List.append_nil]
          exact h1
      · obtain ⟨h1, h2⟩ := h
        rw [Int.toNat_natCast] at h1
        exact ⟨D, rfl, h1, hD, h2⟩
    rintro σ H1 ⟨D, rfl, h1, hD, h2⟩
    have nD := nS D hD
    obtain ⟨m0, r0, e0, hm0⟩ := G.hd
    refine ⟨fun σ H1 => ∃ k s t, ps[k]? = some (s, t) ∧ Word t ∧ σ = [some (.ref a), some (.ref tl), some (.str (tx (loose ps e))), some (.ref q), some (.ref D), some (.int (k : Nat)), none, none, none, none] ∧ SrcAt H1 a ∧ But (· = a) H H1, ?_, ?_⟩
    · refine ⟨_, rfl, _, rfl, a, D, _, rfl, SrcAt.but S h2, SqL.of h1, nD, ?_, ?_, fun i v c st n hv => ?_⟩
      · rw [List.length_map]
        refine List.length_pos_of_mem (a := 0) (List.mem_filter.mpr ⟨List.mem_range.mpr (by rw [e0]; simp), ?_⟩)
        rw [e0]
        exact alpha_mode hm0
      · rw [List.length_map]
        exact Nat.le_trans (List.length_filter_le _ _) (by rw [List.length_range]; omega)
      · have hv := List.mem_of_getElem? hv
        obtain ⟨k, hk, rfl⟩ := List.mem_map.mp hv
        obtain ⟨hk1, hk2⟩ := List.mem_filter.mp hk
        have hk1 := List.mem_range.mp hk1
        have hk3 : k < ps.length := by rw [G.plen]; exact hk1
        have ep : ps[k]? = some (ps[k].1, ps[k].2) := List.getElem?_eq_getElem hk3
        have et := G.at_ ep
        rw [et] at hk2
        have hw := alpha_word (G.wd _ (List.mem_of_getElem? et)) hk2
        rw [tx_cps] at hw
        exact ⟨k, _, _, ep, hw, rfl, ⟨_, _, _, upd_same⟩, (h2.mono fun _ z => z.elim).trans (But.at rfl)⟩
    rintro σ H2 ⟨k, s, t, ep, hw, rfl, S2, g2⟩
    have et := G.at_ ep
    have htk : atI (ts.map V.str) (k : Int) = some (V.str (tx t)) := atI_nat (by rw [List.getElem?_map, et]; rfl)
    have hst : atI ((placed 0 ps).map fun x => V.int (x.1 : Nat)) (k : Int) = some (V.int (((loose (ps.take k) 0).length + s : Nat) : Int)) := atI_nat (by rw [List.getElem?_map, placed_at (n := 0) ep, Nat.zero_add]; rfl)
    have t9 : t.length ≤ 9 := by
      have := G.short _ (List.mem_of_getElem? et)
      rw [tx_len] at this
      exact this
    have t1 : 1 ≤ t.length := by
      rcases Nat.eq_zero_or_pos t.length with z | z
      · exact absurd (List.length_eq_zero_iff.mp z) hw.1
      · exact z
    have htl2 := SqL.but htl g2 (fun z => n1 z.symm)
    refine ⟨fun σ H3 => ∃ m : Nat, 1 ≤ m ∧ m ≤ t.length ∧ σ = [some (.ref a), some (.ref tl), some (.str (tx (loose ps e))), some (.ref q), some (.ref D), some (.int (k : Nat)), some (.int (m : Nat)), none, none, none] ∧ SrcAt H3 a ∧ But (· = a) H H3, ?_, ?_⟩
    · refine ⟨_, rfl, _, rfl, _, rfl, tl, _, _, _, rfl, rfl, htl2, htk, tx t, rfl, szle (by rw [tx_len]; omega), ?_⟩
      rw [tx_len]
      refine ⟨a, _, rfl, by omega, log_small (by omega), S2, fun z c st n z0 z1 => ?_⟩
      obtain ⟨m, rfl⟩ := Int.eq_ofNat_of_zero_le z0
      refine ⟨_, _, rfl, rfl, m + 1, by omega, by omega, ?_, ⟨_, _, _, upd_same⟩, g2.trans (But.at rfl)⟩
      rw [show ((m + 1 : Nat) : Int) = 1 + (m : Int) by omega]
      rfl
    rintro σ H3 ⟨m, m1, m2, rfl, S3, g3⟩
    have htl3 := SqL.but htl g3 (fun z => n1 z.symm)
    have hq3 := SqL.but hq g3 (fun z => n2 z.symm)
    refine ⟨fun σ H4 => σ = [some (.ref a), some (.ref tl), some (.str (tx (loose ps e))), some (.ref q), some (.ref D), some (.int (k : Nat)), some (.int (m : Nat)), some (.str (tx (t.take m))), some (.int (((loose (ps.take k) 0).length + s + m : Nat) : Int)), none] ∧ H4 = H3, ?_, ?_⟩
    · refine ⟨_, rfl, _, rfl, tl, _, _, _, rfl, rfl, htl3, htk, _, rfl, _, rfl, tx t, rfl, szle (by rw [tx_len]; omega), ?_⟩
      refine ⟨_, rfl, _, rfl, q, _, _, _, rfl, rfl, hq3, hst, _, rfl, _, _, rfl, rfl, _, _, rfl, ?_, rfl⟩
      rw [cut_pre, show (((loose (ps.take k) 0).length + s + m : Nat) : Int) = (((loose (ps.take k) 0).length + s : Nat) : Int) + (m : Int) by omega]
      rfl
    rintro σ H4 ⟨rfl, e4⟩
    cases e4
    refine ⟨fun σ H5 => ∃ due : Nat, σ = [some (.ref a), some (.ref tl), some (.str (tx (loose ps e))), some (.ref q), some (.ref D), some (.int (k : Nat)), some (.int (m : Nat)), some (.str (tx (t.take m))), some (.int (due : Nat)), none] ∧ But (fun _ => False) H3 H5 ∧ Due ps k s (t.take m) due, ?_, ?_⟩
    · refine ⟨_, rfl, tl, ts, rfl, htl3, by omega, fun r H5 hr0 er g5 => ?_⟩
      have hwk : atI ((wantsL ts).map V.str) (k : Int) = some (V.str (wl ts k)) := atI_nat (by
        unfold wantsL
        have hkl : k < ts.length := by
          rcases Nat.lt_or_ge k ts.length with z | z
          · exact z
          · rw [List.getElem?_eq_none z] at et; cases et
        rw [List.getElem?_map, List.getElem?_map, List.getElem?_range hkl]
        rfl)
      have hq5 := SqL.grow hq3 g5
      have htl5 := SqL.grow htl3 g5
      refine ⟨_, rfl, r, _, _, _, rfl, rfl, SqL.of er, hwk, rfl, _, rfl, ?_⟩
      by_cases hk : wl ts k = "key"
      · rw [decide_eq_true (by rw [hk])]
        refine iteF ?_
        have hD := due_key G ep hw m1 m2 hk
        refine ⟨_, rfl, rfl, fun r6 H6 hr6 er6 g6 => ?_⟩
        refine ⟨r6, _, rfl, .inl (SqL.of er6), rfl, flat_strs _, _, rfl, ?_⟩
        show if inV (.str (tx (t.take m))) (keptL.map V.str) = true then _ else _
        rw [inV_str]
        have hq6 := SqL.grow hq5 g6
        have htl6 := SqL.grow htl5 g6
        cases hc1 : keptL.contains (tx (t.take m)) with
        | true =>
          rw [if_pos (.inl hc1)] at hD
          exact iteT (iteT ⟨_, rfl, _, rfl, q, _, _, _, rfl, rfl, hq6, hst, _, rfl, g5.trans g6, hD⟩)
        | false =>
          have lk : k ≤ ts.length := by
            rcases Nat.lt_or_ge k ts.length with z | z
            · omega
            · rw [List.getElem?_eq_none z] at et; cases et
          refine iteF ⟨_, rfl, _, rfl, _, rfl, tl, ts, k, rfl, htl6, by omega, lk, G.hd, fun r7 ls H7 hr7 els ll er7 g7 => ?_⟩
          refine ⟨r7, _, rfl, .inl (SqL.of er7), rfl, flat_strs _, _, rfl, ?_⟩
          show if inV (.str (tx (t.take m))) (ls.map V.str) = true then _ else _
          rw [inV_str]
          have hq7 := SqL.grow hq6 g7
          cases hc2 : ls.contains (tx (t.take m)) with
          | true =>
            rw [if_pos (.inr (by rw [← els]; exact List.contains_iff_mem.mp hc2))] at hD
            exact iteT ⟨_, rfl, _, rfl, q, _, _, _, rfl, rfl, hq7, hst, _, rfl, (g5.trans g6).trans g7, hD⟩
          | false =>
            rw [if_neg (fun z => by
              rcases z with z | z
              · rw [hc1] at z; cases z
              · rw [← els] at z
                rw [List.contains_iff_mem.mpr z] at hc2
                cases hc2)] at hD
            exact iteF ⟨_, rfl, (g5.trans g6).trans g7, hD⟩
      · rw [decide_eq_false (fun z => hk (by injection z))]
        have hD := due_mode G ep hw m1 m2 hk
        refine iteT ⟨_, rfl, _, rfl, _, rfl, tl, _, _, _, rfl, rfl, htl5, htk, tx t, rfl, szle (by rw [tx_len]; omega), rfl, _, rfl, ?_⟩
        rw [tx_len]
        by_cases em : m = t.length
        · rw [decide_eq_true (by rw [em])]
          rw [if_pos em] at hD
          exact iteT ⟨_, rfl, _, rfl, g5, hD⟩
        · rw [decide_eq_false (fun z => em (by injection z with z; exact_mod_cast z))]
          rw [if_neg em] at hD
          exact iteF ⟨_, rfl, _, rfl, q, _, _, _, rfl, rfl, hq5, hst, _, rfl, g5, hD⟩
    rintro σ H5 ⟨due, rfl, g35, hDue⟩
    have S5 := SrcAt.but S3 g35
    have g5 : But (· = a) H H5 := g3.trans (g35.mono fun _ z => z.elim)
    refine ⟨fun σ H6 => ∃ g, letter g = false ∧ g ≠ 32 ∧ tx [g] ≠ "{" ∧ tx [g] ≠ ":" ∧ σ = [some (.ref a), some (.ref tl), some (.str (tx (loose ps e))), some (.ref q), some (.ref D), some (.int (k : Nat)), some (.int (m : Nat)), some (.str (tx (t.take m))), some (.int (due : Nat)), some (.str (tx [g]))] ∧ SrcAt H6 a ∧ But (· = a) H H6, ?_, ?_⟩
    · refine ⟨_, rfl, rfl, a, signsS, rfl, S5, by decide +kernel, by decide +kernel, fun i ch c st n hch => ?_⟩
      have sg : ∀ g ∈ signsS.cps.toList, letter g = false ∧ g ≠ 32 ∧ g ≠ 123 ∧ g ≠ 58 := by decide +kernel
      obtain ⟨q1, q2, q3, q4⟩ := sg ch (List.mem_of_getElem? hch)
      refine ⟨ch, q1, q2, fun z => q3 ?_, fun z => q4 ?_, rfl, ⟨_, _, _, upd_same⟩, g5.trans (But.at rfl)⟩
      · have := congrArg (fun x : Str => x.cps.toList) z
        have : [ch] = [123] := this
        injection this
      · have := congrArg (fun x : Str => x.cps.toList) z
        have : [ch] = [58] := this
        injection this
    rintro σ H6 ⟨g, q1, q2, q3, q4, rfl, S6, g6⟩
    have hq6 := SqL.but hq g6 (fun z => n2 z.symm)
    have len := G.len
    have tl1 : ∀ n, ((loose ps e).take n).length ≤ 80000 := fun n => by rw [List.length_take]; omega
    have e4 : ((((loose (ps.take k) 0).length + s : Nat) : Int) + (m : Int)) = (((loose (ps.take k) 0).length + s + m : Nat) : Int) := by omega
    refine ⟨_, rfl, _, rfl, _, rfl, q, _, _, _, rfl, rfl, hq6, hst, _, rfl, _, _, rfl, rfl, _, rfl, tx (loose ps e), rfl, szle (by rw [tx_len]; omega), ?_⟩
    rw [show cutS (tx (loose ps e)) none (some ((((loose (ps.take k) 0).length + s : Nat) : Int) + (m : Int))) = tx ((loose ps e).take ((loose (ps.take k) 0).length + s + m)) by rw [e4, cut_pre]]
    refine ⟨_, rfl, _, _, rfl, rfl, szle (by rw [tx_len, tx_len, List.length_singleton]; have := tl1 ((loose (ps.take k) 0).length + s + m); omega), ?_⟩
    refine ⟨_, rfl, _, rfl, _, rfl, q, _, _, _, rfl, rfl, hq6, hst, _, rfl, _, _, rfl, rfl, _, rfl, ?_⟩
    dsimp only [tNoPart]
    refine ⟨tx (loose ps e), rfl, szle (by rw [tx_len]; omega), ?_⟩
    rw [show cutS (tx (loose ps e)) (some ((((loose (ps.take k) 0).length + s : Nat) : Int) + (m : Int))) none = tx ((loose ps e).drop ((loose (ps.take k) 0).length + s + m)) by rw [e4, cut_suf]]
    obtain ⟨p1, p2⟩ := G.part ep m m2
    rw [p1, p2]
    have lall : (loose (ps.take k) 0).length + s + t.length + (loose (ps.drop (k + 1)) e).length = (loose ps e).length := by
      rw [loose_at e ep]
      simp
      omega
    have ez : tx (loose (ps.take k) 0 ++ (List.replicate s 32 ++ t.take m)) ++ tx [g] ++ tx (t.drop m ++ loose (ps.drop (k + 1)) e) = tx (loose (ps.take k) 0 ++ (List.replicate s 32 ++ (t.take m ++ g :: (t.drop m ++ loose (ps.drop (k + 1)) e)))) := by
      rw [tx_app, tx_app]
      congr 1
      simp
    refine ⟨_, _, rfl, rfl, szle ?_, ?_⟩
    · rw [tx_app, tx_len, tx_len]
      simp only [List.length_append, List.length_replicate, List.length_singleton, List.length_take, List.length_drop]
      omega
    refine ⟨_, rfl, szle (by simp), fun r hr => ?_⟩
    rw [ez]
    have hfr : H r = none := by
      cases er : H r with
      | none => rfl
      | some o =>
        by_cases ea : r = a
        · obtain ⟨_, _, _, z⟩ := S6
          rw [← ea, hr] at z
          cases z
        · rw [g6 r o er ea] at hr
          cases hr
    refine kk r _ due _ hfr (hDue g _ q1 q2 q3 q4) ?_ upd_same (SrcAt.but S6 (But.new hr)) (g6.trans (But.new hr))
    rw [tx_len]
    simp only [List.length_append, List.length_replicate, List.length_cons, List.length_take, List.length_drop]
    omega
end
end K03

set_option Elab.async false
set_option linter.all false
set_option maxRecDepth 100000
set_option maxHeartbeats 4000000
set_option pp.maxSteps 500
namespace K03
open PySem L2 L2.G42
open Evl (pss_cut)
open PyProof.Rows (boot_isinstance boot_int boot_bool boot_list boot_set boot_abs boot_enumerate boot_tuple boot_str boot_all)
abbrev sWrong : Stmt := top 32
abbrev NWrong : List Str := ["_law_source_here", "_law_tokens_here", "_law_k", "_law_never", "_law_want", "_law_fits"]
theorem scWrong : FnScope NWrong ["_law_source_here", "_law_tokens_here", "_law_k"] (defScope sWrong) := ⟨rfl, rfl, rfl, by decide +kernel, rfl, by decide +kernel, by decide +kernel⟩
/-- a token that is refused at k -/
def spWrong (K : PySem.W.Frag) : Sp := fun vs H Q _ => ∃ (a tl : Addr) (ts : List Str) (ps : List (Nat × List Nat)) (e k s : Nat) (t : List Nat), vs = [.ref a, .ref tl, .int (k : Nat)] ∧ SrcAt H a ∧ SqL K H tl (ts.map V.str) ∧ a ≠ tl ∧ Gd3 ts ps e ∧ ps[k]? = some (s, t) ∧
  ∀ (w : Str) (H' : Hp), Tk w.cps.toList → w.length ≤ 9 → (∀ c, Au.start.steps (ts.take k) = some c → c.step w = none) → SrcAt H' a → But (· = a) H H' → Q (.str w) H'
def tkB (x : Str) : Bool := (!x.cps.toList.isEmpty && x.cps.toList.all letter) || match x.cps.toList with
  | [c] => !letter c && decide (c ≠ 32)
  | _ => false
theorem tkB_tk {x : Str} (h : tkB x = true) : Tk x.cps.toList := by
  unfold tkB at h
  rcases Bool.or_eq_true_iff.mp h with h | h
  · obtain ⟨h1, h2⟩ := Bool.and_eq_true_iff.mp h
    refine .inl ⟨fun e => by rw [e] at h1; simp at h1, fun c hc => List.all_eq_true.mp h2 c hc⟩
  · generalize e : x.cps.toList = l at h
    match l, h with
    | [c], h =>
      simp at h
      exact .inr ⟨c, rfl, h.1, h.2⟩
    | [], h => cases h
    | _ :: _ :: _, h => cases h
/-- a token that is refused in this phase -/
def badB (ph : Ph) (x : Str) : Bool := tkB x && (decide (x.length ≤ 9) && noB ph x)
def phs : List Ph := [.whole, .open_, .key, .colon, .item, .after, .done]
theorem phs_all (p : Ph) : p ∈ phs := by cases p <;> decide
def badA (x : Str) : Bool := phs.all fun p => badB p x
structure Bad (c : Au) (x : Str) : Prop where
  tk : Tk x.cps.toList
  short : x.length ≤ 9
  no : c.step x = none
theorem bad_of {c : Au} {x : Str} (h : badB c.ph x = true) : Bad c x := by
  unfold badB at h
  obtain ⟨h1, h2⟩ := Bool.and_eq_true_iff.mp h
  obtain ⟨h2, h3⟩ := Bool.and_eq_true_iff.mp h2
  exact ⟨tkB_tk h1, of_decide_eq_true h2, no_step h3⟩
theorem bad_any {c : Au} {x : Str} (h : badA x = true) : Bad c x := bad_of (List.all_eq_true.mp h c.ph (phs_all _))
def fm : List Str := ["{", "}", ":", ",", "*", "!", "abc"]
def fo : List Str := ["}", ":", ",", "*", "!", "abc", "live"]
def fk : List Str := ["{", "}", ":", ",", "*", "!"]
def fc : List Str := ["{", "}", ",", "*", "!", "abc", "copy"]
def fi : List Str := ["{", "}", ":", ",", "abc", "like"]
def fa : List Str := ["{", ":", "*", "!", "abc", "copy"]
theorem sign_bad : ∀ g ∈ signsS.cps.toList, badA (tx [g]) = true := by decide +kernel
theorem nine_bad : badA "ninefolds" = true := by decide +kernel
theorem kept_bad : ∀ x ∈ keptL.drop 3, badA x = true := by decide +kernel
theorem kept_bad2 : ∀ x ∈ keptL, badB .key x = true := by decide +kernel
/-- lists under names -/
structure FitSt (H : Hp) (a D : Addr) (asg : List (Str × List Str)) : Prop where
  ex : ∃ kvs : List (Key × V), H D = some (.dK kvs) ∧ kvs.length ≤ asg.length ∧ ∀ p ∈ asg, ∃ l, valV kvs (Sum.inr p.1) = some (.ref l) ∧ H l = some (.lst (p.2.map V.str)) ∧ l ≠ a
  na : D ≠ a
theorem FitSt.grow {H H' : Hp} {a D : Addr} {asg : List (Str × List Str)} (h : FitSt H a D asg) (g : But (· = a) H H') : FitSt H' a D asg := by
  obtain ⟨kvs, h1, h2, h3⟩ := h.ex
  refine ⟨⟨kvs, g _ _ h1 h.na, h2, fun p hp => ?_⟩, h.na⟩
  obtain ⟨l, e1, e2, e3⟩ := h3 p hp
  exact ⟨l, e1, g _ _ e2 e3, e3⟩
theorem FitSt.put {H : Hp} {a D l : Addr} {asg : List (Str × List Str)} {n : Str} {ws : List Str} (h : FitSt H a D asg) (hl : H l = some (.lst (ws.map V.str))) (la : l ≠ a) (hn : ∀ p ∈ asg, p.1 ≠ n) (few : asg.length ≤ 10) :
    ∃ H', DPut H D (.str n) (.ref l) H' ∧ FitSt H' a D (asg ++ [(n, ws)]) ∧ ∀ b, b ≠ D → H' b = H b := by
  obtain ⟨kvs, h1, h2, h3⟩ := h.ex
  refine ⟨_, DPut.k (k := Sum.inr n) h1 (szl (by omega)), ⟨⟨_, upd_same, ?_, fun p hp => ?_⟩, h.na⟩, fun b hb => upd_ne hb⟩
  · rw [List.length_append]
    exact Nat.le_trans (G42.putK_len _ _ _) (by simp; omega)
  · have nl : ∀ l' : Addr, (∃ xs, H l' = some (.lst xs)) → l' ≠ D := fun l' ⟨xs, z⟩ e => by rw [e, h1] at z; cases z
    rcases List.mem_append.mp hp with hp | hp
    · obtain ⟨l', e1, e2, e3⟩ := h3 p hp
      refine ⟨l', ?_, by rw [upd_ne (nl l' ⟨_, e2⟩)]; exact e2, e3⟩
      rw [valV_put, if_neg (fun z => hn p hp (by injection z))]
      exact e1
    · rw [List.mem_singleton.mp hp]
      refine ⟨l, ?_, by rw [upd_ne (nl l ⟨_, hl⟩)]; exact hl, la⟩
      rw [valV_put, if_pos rfl]
section
variable {P : Program} {w : World} {K : PySem.W.Frag} {mg : Str → Option Value} {base : Heap}
theorem ok_wrong {f : Addr} {fd : FuncData} (F : Fun K "_law_wrong" "_law_wrong" sWrong f fd) (T : Bn mg) (cOf : Cl P w K mg base 2 "_law_of" (spOf K) []) (cOfS : Cl P w K mg base 2 "_law_of" spOfS []) (cWants : Cl P w K mg base 1 "_law_wants" (spWants K) []) (cBefore : Cl P w K mg base 1 "_law_before" (spBefore K) []) (cKept : Cl P w K mg base 1 "_law_kept" spKept []) (cSigns : Cl P w K mg base 1 "_law_signs" spSigns []) : FnOk P w K mg base CX0 3 f fd ["_law_source_here", "_law_tokens_here", "_law_k"] (spWrong K) := by
  refine F.ok scWrong (fun vs H Q E h => ?_) (fun cdv A outer s H vs Q E hr h => ?_)
  · obtain ⟨a, tl, ts, ps, e, k, s, t, rfl, _⟩ := h
    rfl
  · obtain ⟨a, tl, ts, ps, e, k, s, t, rfl, S, htl, n1, G, ep, kk⟩ := h
    have hu := hr.units
    have hu1 := Nat.lt_of_le_of_lt (Nat.add_le_add_left (show 1 ≤ 64 by decide) _) hu
    refine ⟨_, (pss_cut (ps_set (i := 3) scWrong.nd rfl (.inl rfl) (pe_lst (pa_cons (pe_c cOfS hr (by decide) rfl (pa_cons (pv 0) (pa_cons (pe_c0 cSigns hr (by decide) rfl) pa_nil))) (pa_cons pe_str (pa_cons (pe_c cOf hr (by decide) rfl (pa_cons (pv 0) (pa_cons (pe_slice sl_list (pe_c0 cKept hr (by decide) rfl) (po_some pe_int) po_none) pa_nil))) pa_nil)))))
        (pss_cut (ps_set (i := 4) scWrong.nd rfl (.inl rfl) (pe_ix ix_list (pe_c cWants hr (by decide) rfl (pa_cons (pv 1) pa_nil)) (pv 2) (fun _ _ => rfl)))
        (pss_cut (ps_set (i := 5) scWrong.nd rfl (.inl rfl) (pe_disp (pps_cons pe_str (pe_lst (pa_cons pe_str (pa_cons pe_str (pa_cons pe_str (pa_cons pe_str (pa_cons pe_str (pa_cons pe_str (pa_cons pe_str pa_nil)))))))) (pps_cons pe_str (pe_lst (pa_cons pe_str (pa_cons pe_str (pa_cons pe_str (pa_cons pe_str (pa_cons pe_str (pa_cons pe_str (pa_cons pe_str pa_nil)))))))) pps_nil)) (by rfl) (by rfl) (fun z => by cases z) (by decide)))
        (pss_cut (ps_dput hu1 (pv 5) pe_str (pe_op op_cat (pe_lst (pa_cons pe_str (pa_cons pe_str (pa_cons pe_str (pa_cons pe_str (pa_cons pe_str (pa_cons pe_str (pa_cons (pe_c cOf hr (by decide) rfl (pa_cons (pv 0) (pa_cons (pe_c0 cKept hr (by decide) rfl) pa_nil))) pa_nil)))))))) (pe_c cBefore hr (by decide) rfl (pa_cons (pv 1) (pa_cons (pv 2) pa_nil)))) rfl)
        (pss_cut (ps_dput hu1 (pv 5) pe_str (pe_lst (pa_cons pe_str (pa_cons pe_str (pa_cons pe_str (pa_cons pe_str (pa_cons pe_str (pa_cons pe_str (pa_cons pe_str pa_nil)))))))) rfl)
        (pss_cut (ps_dput hu1 (pv 5) pe_str (pe_lst (pa_cons pe_str (pa_cons pe_str (pa_cons pe_str (pa_cons pe_str (pa_cons pe_str (pa_cons pe_str pa_nil))))))) rfl)
        (pss_cut (ps_dput hu1 (pv 5) pe_str (pe_lst (pa_cons pe_str (pa_cons pe_str (pa_cons pe_str (pa_cons pe_str (pa_cons pe_str (pa_cons pe_str pa_nil))))))) rfl)
        (pss_one (ps_ret (pe_c cOf hr (by decide) rfl (pa_cons (pv 0) (pa_cons (pe_op op_cat (pv 3) (pe_dget hu1 (pv 5) (pv 4) (fun _ _ => rfl))) pa_nil)))))))))))), ?_⟩
    have few := G.few
    have et := G.at_ ep
    have kl : k < ts.length := by
      rcases Nat.lt_or_ge k ts.length with z | z
      · exact z
      · rw [List.getElem?_eq_none z] at et; cases et
    obtain ⟨c, d, hc, hd, hwl⟩ := G.state ep
    have fr : ∀ {Hn : Hp} {x : Addr}, SrcAt Hn a → Hn x = none → x ≠ a := fun S' hx e => src_ne' S' (by rw [← e]; exact hx)
    refine ⟨fun σ H1 => ∃ (NL : Addr) (nv : List Str), σ = [some (.ref a), some (.ref tl), some (.int (k : Nat)), some (.ref NL), none, none] ∧ H1 NL = some (.lst (nv.map V.str)) ∧ (∀ x ∈ nv, Bad c x) ∧ nv.length = 3 ∧ NL ≠ a ∧ SrcAt H1 a ∧ But (· = a) H H1, ?_, ?_⟩
    · refine ⟨_, rfl, rfl, a, signsS, rfl, S, by decide +kernel, by decide +kernel, fun i g c1 st1 m1 hg => ?_⟩
      have g1 : But (· = a) H (upd H a (src c1 st1 m1)) := But.at rfl
      have S1 : SrcAt (upd H a (src c1 st1 m1)) a := ⟨_, _, _, upd_same⟩
      generalize upd H a (src c1 st1 m1) = H1 at g1 S1 ⊢
      refine ⟨_, rfl, rfl, fun r2 H2 hr2 er2 g2 => ?_⟩
      have S2 := SrcAt.but S1 g2
      refine ⟨_, rfl, ?_⟩
      dsimp only [tNoPart]
      refine ⟨r2, _, rfl, SqL.of er2, fun r3 hr3 => ?_⟩
      have e3 : cutV (keptL.map V.str) (some 3) none = (keptL.drop 3).map V.str := by decide +kernel
      rw [e3]
      have S3 := SrcAt.but S2 (But.new (o := .lst ((keptL.drop 3).map V.str)) hr3)
      refine ⟨a, r3, _, rfl, S3, SqL.of upd_same, (fr S2 hr3).symm, by decide, by decide, fun i2 v c2 st2 m2 hv => ?_⟩
      rw [List.getElem?_map, Option.map_eq_some_iff] at hv
      obtain ⟨y, hy, rfl⟩ := hv
      have g4 : But (· = a) H (upd (upd H2 r3 (.lst ((keptL.drop 3).map V.str))) a (src c2 st2 m2)) := ((g1.trans (g2.mono fun _ z => z.elim)).trans (But.new hr3)).trans (But.at rfl)
      have S4 : SrcAt (upd (upd H2 r3 (.lst ((keptL.drop 3).map V.str))) a (src c2 st2 m2)) a := ⟨_, _, _, upd_same⟩
      dsimp only [tNil]
      generalize upd (upd H2 r3 (.lst ((keptL.drop 3).map V.str))) a (src c2 st2 m2) = H4 at g4 S4 ⊢
      refine ⟨szle (by simp), fun NL hNL => ⟨NL, [tx [g], "ninefolds", y], rfl, upd_same, fun x hx => ?_, rfl, fr S4 hNL, SrcAt.but S4 (But.new hNL), g4.trans (But.new hNL)⟩⟩
      simp only [List.mem_cons, List.not_mem_nil, or_false] at hx
      rcases hx with rfl | rfl | rfl
      · exact bad_any (sign_bad g (List.mem_of_getElem? hg))
      · exact bad_any nine_bad
      · exact bad_any (kept_bad _ (List.mem_of_getElem? hy))
    rintro σ H1 ⟨NL, nv, rfl, eNL, hnv, lnv, nNL, S1, g1⟩
    refine ⟨fun σ H2 => σ = [some (.ref a), some (.ref tl), some (.int (k : Nat)), some (.ref NL), some (.str c.ph.want), none] ∧ But (fun _ => False) H1 H2, ?_, ?_⟩
    · refine ⟨_, rfl, tl, ts, rfl, SqL.but htl g1 (fun z => n1 z.symm), by omega, fun r H2 hr0 er g2 => ?_⟩
      have hwk : atI ((wantsL ts).map V.str) (k : Int) = some (V.str (wl ts k)) := atI_nat (by
        unfold wantsL
        rw [List.getElem?_map, List.getElem?_map, List.getElem?_range kl]
        rfl)
      rw [hwl] at hwk
      exact ⟨_, rfl, r, _, _, _, rfl, rfl, SqL.of er, hwk, rfl, g2⟩
    rintro σ H2 ⟨rfl, g12⟩
    have S2 := SrcAt.but S1 g12
    have g2 : But (· = a) H H2 := g1.trans (g12.mono fun _ z => z.elim)
    have eN2 := g12 _ _ eNL id
    refine ⟨fun σ H3 => ∃ D, σ = [some (.ref a), some (.ref tl), some (.int (k : Nat)), some (.ref NL), some (.str c.ph.want), some (.ref D)] ∧ FitSt H3 a D [("mode", fm), ("open", fo)] ∧ H3 NL = some (.lst (nv.map V.str)) ∧ SrcAt H3 a ∧ H D = none ∧ But (· = a) H H3, ?_, ?_⟩
    · intro D hD
      have gD : But (fun _ => False) H2 (upd H2 D (.dK [])) := But.new hD
      have nDa := fr S2 hD
      have hD0 : H D = none := by
        cases e0 : H D with
        | none => rfl
        | some o => rw [g2 D o e0 nDa] at hD; cases hD
      refine ⟨szle (by simp), fun l1 hl1 => ⟨szle (by simp), fun l2 hl2 => ?_⟩⟩
      have gl1 : But (fun _ => False) (upd H2 D (.dK [])) (upd (upd H2 D (.dK [])) l1 (.lst (fm.map V.str))) := But.new hl1
      have gl2 : But (fun _ => False) (upd (upd H2 D (.dK [])) l1 (.lst (fm.map V.str))) (upd (upd (upd H2 D (.dK [])) l1 (.lst (fm.map V.str))) l2 (.lst (fo.map V.str))) := But.new hl2
      have e1 : (upd (upd (upd H2 D (.dK [])) l1 (.lst (fm.map V.str))) l2 (.lst (fo.map V.str))) D = some (.dK []) := (gl1.trans gl2) _ _ upd_same id
      have e2 : (upd (upd (upd H2 D (.dK [])) l1 (.lst (fm.map V.str))) l2 (.lst (fo.map V.str))) l1 = some (.lst (fm.map V.str)) := gl2 _ _ upd_same id
      have e3 : (upd (upd (upd H2 D (.dK [])) l1 (.lst (fm.map V.str))) l2 (.lst (fo.map V.str))) l2 = some (.lst (fo.map V.str)) := upd_same
      have gg : But (fun _ => False) H2 (upd (upd (upd H2 D (.dK [])) l1 (.lst (fm.map V.str))) l2 (.lst (fo.map V.str))) := (gD.trans gl1).trans gl2
      have la1 : l1 ≠ a := fr S2 (gD.free hl1)
      have la2 : l2 ≠ a := fr S2 ((gD.trans gl1).free hl2)
      refine ⟨e1, [(Sum.inr "mode", .ref l1), (Sum.inr "open", .ref l2)], rfl, by simp, ?_⟩
      show ∃ D, _
      have gg2 : ∀ o, But (fun _ => False) H2 (upd (upd (upd (upd H2 D (.dK [])) l1 (.lst (fm.map V.str))) l2 (.lst (fo.map V.str))) D o) := fun o => gg.fresh hD
      have d1 : l1 ≠ D := fun z => by rw [z, upd_same] at hl1; cases hl1
      have d2 : l2 ≠ D := (ne_of_none (gl1 _ _ upd_same id) hl2).symm
      refine ⟨D, rfl, ⟨⟨_, upd_same, ?_, fun p hp => ?_⟩, nDa⟩, gg2 _ _ _ eN2 id, SrcAt.but S2 (gg2 _), hD0, g2.trans ((gg2 _).mono fun _ z => z.elim)⟩
      · exact length_mergeK _ []
      · have hv : ∀ n : Str, valV (κ := Key) (mergeK [] [(Sum.inr (Str.ofString "mode"), V.ref l1), (Sum.inr (Str.ofString "open"), .ref l2)]) (Sum.inr n) = if n = "open" then some (.ref l2) else if n = "mode" then some (.ref l1) else none := fun n => by
          show valV (κ := Key) (putK (putK [] (Sum.inr (Str.ofString "mode")) (V.ref l1)) (Sum.inr (Str.ofString "open")) (.ref l2)) (Sum.inr n) = _
          rw [valV_put, valV_put, valV_nil]
          have i1 : ((Sum.inr n : Key) = Sum.inr (Str.ofString "open")) = (n = "open") := by rw [Sum.inr.injEq]
          have i2 : ((Sum.inr n : Key) = Sum.inr (Str.ofString "mode")) = (n = "mode") := by rw [Sum.inr.injEq]
          simp only [i1, i2]
        simp only [List.mem_cons, List.not_mem_nil, or_false] at hp
        rcases hp with rfl | rfl
        · exact ⟨l1, by rw [hv, if_neg (by decide), if_pos rfl], by rw [upd_ne d1]; exact e2, la1⟩
        · exact ⟨l2, by rw [hv, if_pos rfl], by rw [upd_ne d2]; exact e3, la2⟩
    rintro σ H3 ⟨D, rfl, F3, eN3, S3, hD0, g3⟩
    have lN : ∀ {Hn : Hp} {asg}, FitSt Hn a D asg → Hn NL = some (.lst (nv.map V.str)) → NL ≠ D := fun F' z e => by
      obtain ⟨kvs, h1, _⟩ := F'.ex
      rw [e, h1] at z
      cases z
    have hDf : ∀ {Hn Hm : Hp} {asg}, FitSt Hn a D asg → (∀ b, b ≠ D → Hm b = Hn b) → But (· = a) H Hn → But (· = a) H Hm := fun F' hb g z o hz nz => by
      rw [hb z (fun e => by rw [e, hD0] at hz; cases hz)]
      exact g z o hz nz
    refine ⟨fun σ H4 => ∃ (y : Str) (ls : List Str), y ∈ keptL ∧ ls = bef (ts.take k).reverse 0 ∧ ls.length ≤ 100 ∧ σ = [some (.ref a), some (.ref tl), some (.int (k : Nat)), some (.ref NL), some (.str c.ph.want), some (.ref D)] ∧ FitSt H4 a D ([(Str.ofString "mode", fm), (Str.ofString "open", fo)] ++ [(Str.ofString "key", fk ++ [y] ++ ls)]) ∧ H4 NL = some (.lst (nv.map V.str)) ∧ SrcAt H4 a ∧ But (· = a) H H4, ?_, ?_⟩
    · refine ⟨_, rfl, rfl, fun r4 H4 hr4 er4 g34 => ?_⟩
      have S4 := SrcAt.but S3 g34
      refine ⟨a, r4, _, rfl, S4, SqL.of er4, (fr S3 hr4).symm, by decide, by decide, fun i v c2 st2 m2 hv => ?_⟩
      rw [List.getElem?_map, Option.map_eq_some_iff] at hv
      obtain ⟨y, hy, rfl⟩ := hv
      have g4 : But (· = a) H3 (upd H4 a (src c2 st2 m2)) := (g34.mono fun _ z => z.elim).trans (But.at rfl)
      have S5 : SrcAt (upd H4 a (src c2 st2 m2)) a := ⟨_, _, _, upd_same⟩
      dsimp only [tNil]
      generalize upd H4 a (src c2 st2 m2) = H5 at g4 S5 ⊢
      refine ⟨szle (by simp), fun l hl => ?_⟩
      have g5 : But (fun _ => False) H5 (upd H5 l (.lst ((fk ++ [y]).map V.str))) := But.new hl
      have htl6 : SqL K (upd H5 l (.lst ((fk ++ [y]).map V.str))) tl (ts.map V.str) := SqL.but htl ((g3.trans g4).trans (But.new hl)) (fun z => n1 z.symm)
      refine ⟨_, rfl, _, rfl, tl, ts, k, rfl, htl6, by omega, by omega, G.hd, fun r7 ls H7 hr7 els ll er7 g7 => ?_⟩
      refine ⟨l, r7, (fk ++ [y]).map V.str, _, rfl, rfl, g7 _ _ upd_same id, er7, szle (by simp [fk]; omega), fun p hp => ?_⟩
      rw [← List.map_append]
      have g8 : But (· = a) H3 (upd H7 p (.lst ((fk ++ [y] ++ ls).map V.str))) := ((g4.trans (g5.mono fun _ z => z.elim)).trans (g7.mono fun _ z => z.elim)).trans (But.new hp)
      have S7 := SrcAt.but (SrcAt.but S5 g5) g7
      have S8 := SrcAt.but S7 (But.new (o := .lst ((fk ++ [y] ++ ls).map V.str)) hp)
      obtain ⟨H', h1, h2, h3⟩ := FitSt.put (n := "key") (ws := fk ++ [y] ++ ls) (F3.grow g8) upd_same (fr S7 hp) (fun p hp => by
        simp only [List.mem_cons, List.not_mem_nil, or_false] at hp
        rcases hp with rfl | rfl <;> (dsimp only; decide)) (by simp)
      have eN : (upd H7 p (.lst ((fk ++ [y] ++ ls).map V.str))) NL = some (.lst (nv.map V.str)) := g8 _ _ eN3 nNL
      have nD := lN (F3.grow g8) eN
      refine ⟨_, rfl, D, H', rfl, h1, y, ls, List.mem_of_getElem? hy, els, by omega, rfl, h2, by rw [h3 NL nD]; exact eN, ?_, hDf (F3.grow g8) h3 (g3.trans g8)⟩
      obtain ⟨x1, x2, x3, ex⟩ := S8
      exact ⟨x1, x2, x3, by rw [h3 a F3.na.symm]; exact ex⟩
    rintro σ H5 ⟨y, ls, hy, els, lls, rfl, F5, eN5, S5, g5⟩
    refine ⟨fun σ H4 => σ = [some (.ref a), some (.ref tl), some (.int (k : Nat)), some (.ref NL), some (.str c.ph.want), some (.ref D)] ∧ FitSt H4 a D ([(Str.ofString "mode", fm), (Str.ofString "open", fo)] ++ [(Str.ofString "key", fk ++ [y] ++ ls)] ++ [(Str.ofString "colon", fc)]) ∧ H4 NL = some (.lst (nv.map V.str)) ∧ SrcAt H4 a ∧ But (· = a) H H4, ?_, ?_⟩
    · refine ⟨szle (by simp), fun l hl => ⟨_, rfl, ?_⟩⟩
      have gl : But (· = a) H5 (upd H5 l (.lst (fc.map V.str))) := But.new hl
      obtain ⟨H', h1, h2, h3⟩ := FitSt.put (n := "colon") (ws := fc) (F5.grow gl) upd_same (fr S5 hl) (fun p hp => by
        simp only [List.mem_append, List.mem_cons, List.not_mem_nil, or_false] at hp
        rcases hp with (rfl | rfl) | rfl <;> (dsimp only; decide)) (by simp)
      have eN : (upd H5 l (.lst (fc.map V.str))) NL = some (.lst (nv.map V.str)) := gl _ _ eN5 nNL
      have nD := lN (F5.grow gl) eN
      refine ⟨D, H', rfl, h1, rfl, h2, by rw [h3 NL nD]; exact eN, ?_, hDf (F5.grow gl) h3 (g5.trans gl)⟩
      obtain ⟨x1, x2, x3, ex⟩ := SrcAt.but S5 (But.new (o := .lst (fc.map V.str)) hl)
      exact ⟨x1, x2, x3, by rw [h3 a F5.na.symm]; exact ex⟩
    rintro σ H6 ⟨rfl, F6, eN6, S6, g6⟩
    refine ⟨fun σ H4 => σ = [some (.ref a), some (.ref tl), some (.int (k : Nat)), some (.ref NL), some (.str c.ph.want), some (.ref D)] ∧ FitSt H4 a D ([(Str.ofString "mode", fm), (Str.ofString "open", fo)] ++ [(Str.ofString "key", fk ++ [y] ++ ls)] ++ [(Str.ofString "colon", fc)] ++ [(Str.ofString "item", fi)]) ∧ H4 NL = some (.lst (nv.map V.str)) ∧ SrcAt H4 a ∧ But (· = a) H H4, ?_, ?_⟩
    · refine ⟨szle (by simp), fun l hl => ⟨_, rfl, ?_⟩⟩
      have gl : But (· = a) H6 (upd H6 l (.lst (fi.map V.str))) := But.new hl
      obtain ⟨H', h1, h2, h3⟩ := FitSt.put (n := "item") (ws := fi) (F6.grow gl) upd_same (fr S6 hl) (fun p hp => by
        simp only [List.mem_append, List.mem_cons, List.not_mem_nil, or_false] at hp
        rcases hp with ((rfl | rfl) | rfl) | rfl <;> (dsimp only; decide)) (by simp)
      have eN : (upd H6 l (.lst (fi.map V.str))) NL = some (.lst (nv.map V.str)) := gl _ _ eN6 nNL
      have nD := lN (F6.grow gl) eN
      refine ⟨D, H', rfl, h1, rfl, h2, by rw [h3 NL nD]; exact eN, ?_, hDf (F6.grow gl) h3 (g6.trans gl)⟩
      obtain ⟨x1, x2, x3, ex⟩ := SrcAt.but S6 (But.new (o := .lst (fi.map V.str)) hl)
      exact ⟨x1, x2, x3, by rw [h3 a F6.na.symm]; exact ex⟩
    rintro σ H7 ⟨rfl, F7, eN7, S7, g7⟩
    refine ⟨fun σ H4 => σ = [some (.ref a), some (.ref tl), some (.int (k : Nat)), some (.ref NL), some (.str c.ph.want), some (.ref D)] ∧ FitSt H4 a D ([(Str.ofString "mode", fm), (Str.ofString "open", fo)] ++ [(Str.ofString "key", fk ++ [y] ++ ls)] ++ [(Str.ofString "colon", fc)] ++ [(Str.ofString "item", fi)] ++ [(Str.ofString "after", fa)]) ∧ H4 NL = some (.lst (nv.map V.str)) ∧ SrcAt H4 a ∧ But (· = a) H H4, ?_, ?_⟩
    · refine ⟨szle (by simp), fun l hl => ⟨_, rfl, ?_⟩⟩
      have gl : But (· = a) H7 (upd H7 l (.lst (fa.map V.str))) := But.new hl
      obtain ⟨H', h1, h2, h3⟩ := FitSt.put (n := "after") (ws := fa) (F7.grow gl) upd_same (fr S7 hl) (fun p hp => by
        simp only [List.mem_append, List.mem_cons, List.not_mem_nil, or_false] at hp
        rcases hp with (((rfl | rfl) | rfl) | rfl) | rfl <;> (dsimp only; decide)) (by simp)
      have eN : (upd H7 l (.lst (fa.map V.str))) NL = some (.lst (nv.map V.str)) := gl _ _ eN7 nNL
      have nD := lN (F7.grow gl) eN
      refine ⟨D, H', rfl, h1, rfl, h2, by rw [h3 NL nD]; exact eN, ?_, hDf (F7.grow gl) h3 (g7.trans gl)⟩
      obtain ⟨x1, x2, x3, ex⟩ := SrcAt.but S7 (But.new (o := .lst (fa.map V.str)) hl)
      exact ⟨x1, x2, x3, by rw [h3 a F7.na.symm]; exact ex⟩
    rintro σ H8 ⟨rfl, F8, eN8, S8, g8⟩
    have hnd : c.ph ≠ .done := fun z => by
      unfold Au.step at hd
      rw [z] at hd
      cases hd
    obtain ⟨kvs, hD8, _, hfit⟩ := F8.ex
    have hget : ∃ ws : List Str, (c.ph.want, ws) ∈ ([(Str.ofString "mode", fm), (Str.ofString "open", fo)] ++ [(Str.ofString "key", fk ++ [y] ++ ls)] ++ [(Str.ofString "colon", fc)] ++ [(Str.ofString "item", fi)] ++ [(Str.ofString "after", fa)]) ∧ (∀ x ∈ ws, Bad c x) ∧ ws.length ≤ 107 := by
      have ck : ∀ (ph : Ph) (l : List Str), c.ph = ph → l.all (badB ph) = true → ∀ x ∈ l, Bad c x := fun ph l e h x hx => bad_of (by rw [e]; exact List.all_eq_true.mp h x hx)
      cases ep : c.ph with
      | whole => exact ⟨fm, by simp [Ph.want], ck .whole fm ep (by decide +kernel), by decide⟩
      | open_ => exact ⟨fo, by simp [Ph.want], ck .open_ fo ep (by decide +kernel), by decide⟩
      | colon => exact ⟨fc, by simp [Ph.want], ck .colon fc ep (by decide +kernel), by decide⟩
      | item => exact ⟨fi, by simp [Ph.want], ck .item fi ep (by decide +kernel), by decide⟩
      | after => exact ⟨fa, by simp [Ph.want], ck .after fa ep (by decide +kernel), by decide⟩
      | done => exact absurd ep hnd
      | key =>
        refine ⟨fk ++ [y] ++ ls, by simp [Ph.want], fun x hx => ?_, by simp [fk]; omega⟩
        rcases List.mem_append.mp hx with hx | hx
        · rcases List.mem_append.mp hx with hx | hx
          · exact ck .key fk ep (by decide +kernel) x hx
          · rw [List.mem_singleton.mp hx]
            exact bad_of (by rw [ep]; exact kept_bad2 y hy)
        · rw [els] at hx
          have hin := (bef_keys hc ep x).mp hx
          obtain ⟨_, _, _, wh⟩ := BI.steps BI.start start_wf start_wg WH.start hc
          obtain ⟨q, hq, eq⟩ := List.mem_map.mp hin
          have hk : isKey x = true := (wh.km q hq).2 x (by rw [eq]; simp)
          exact ⟨.inl (key_word hk), by have := (key_len hk).2; omega, key_step ep hin⟩
    obtain ⟨ws, hmem, hbad, lws⟩ := hget
    obtain ⟨l, hv, hl, la⟩ := hfit _ hmem
    replace hl : H8 l = some (.lst (ws.map V.str)) := hl
    refine ⟨_, rfl, _, rfl, _, rfl, _, rfl, D, .ref l, rfl, ?_, ?_⟩
    · rw [← hv]
      exact DGet.k (k := Sum.inr c.ph.want) hD8
    refine ⟨NL, l, _, _, rfl, rfl, eN8, hl, szle (by rw [List.length_map, List.length_map]; omega), fun p hp => ?_⟩
    rw [← List.map_append]
    have S9 := SrcAt.but S8 (But.new (o := .lst ((nv ++ ws).map V.str)) hp)
    refine ⟨a, p, _, rfl, S9, SqL.of upd_same, (fr S8 hp).symm, by rw [List.length_map, List.length_append]; omega, ?_, fun i v c2 st2 m2 hv2 => ?_⟩
    · rw [List.length_map, List.length_append]
      omega
    rw [List.getElem?_map, Option.map_eq_some_iff] at hv2
    obtain ⟨x, hx, rfl⟩ := hv2
    have hb : Bad c x := by
      rcases List.mem_append.mp (List.mem_of_getElem? hx) with hx | hx
      · exact hnv x hx
      · exact hbad x hx
    exact kk x _ hb.tk hb.short (fun c' hc' => by rw [hc] at hc'; injection hc' with hc'; rw [← hc']; exact hb.no) ⟨_, _, _, upd_same⟩ ((g8.trans (But.new hp)).trans (But.at rfl))
end
end K03

set_option Elab.async false
set_option linter.all false
set_option maxRecDepth 100000
set_option maxHeartbeats 8000000
set_option pp.maxSteps 600
namespace K03
open PySem L2 L2.G42
open Evl (pss_cut)
open _root_.ClX (CRead CVal pe_cval)
open PyProof.Rows (boot_isinstance boot_int boot_bool boot_list boot_set boot_abs boot_enumerate boot_tuple boot_str boot_all)
abbrev sLaw : Stmt := top 34
/-- what law calls -/
structure Calls (P : Program) (w : World) (K : PySem.W.Frag) (mg : Str → Option Value) (base : Heap) (BK B : Addr) (mc : Value) : Prop where
  gl : mg "Book" = some (.ref BK)
  source : Cl P w K mg base 1 "_law_source" (spSource K) []
  take : Cl P w K mg base 1 "_law_take" spTake []
  of_ : Cl P w K mg base 2 "_law_of" (spOf K) []
  words : Cl P w K mg base 2 "_law_words" spWords []
  tab : Cl P w K mg base 6 "_law_table" (spTab K 4) []
  toks : Cl P w K mg base 5 "_law_tokens" (spToksT K 4) []
  loose : Cl P w K mg base 3 "_law_loose" (spLooseB K) []
  wr : Cl P w K mg base 5 "_law_written" (spShT K true 4) []
  inside : Cl P w K mg base 3 "_law_inside" (spBad K) []
  longer : Cl P w K mg base 3 "_law_longer" (spBad K) []
  wrong : Cl P w K mg base 3 "_law_wrong" (spWrong K) []
  told : Cl P w K mg base 16 "_law_told" spTold []
  read : CmX P w K mg base 15 BK mc "read" (spRead K BK B)
  str : Own1 P w K mg base 8 BK "__str__" (spBStr BK "" "")
  eq : OwnEq P w K mg base 1 BK (spBEq K BK)
  ty : BkTy K BK
def spLaw (K : PySem.W.Frag) : Sp := fun vs H Q _ => ∃ (a : Addr) (ns : List Int), vs = [.ref a] ∧ SqL K H a (ns.map V.int) ∧ ns.length ≤ 63 ∧ ∀ H', Q (.bl true) H'
abbrev NLaw : List Str := ["_law_script", "_law_at", "_law_source_here", "_law_item", "_law_tokens_here", "_law_good", "_law_starts", "_law_book", "_law_k", "_law_kind", "_law_text", "_law_due", "_law_start"]
theorem scLaw : FnScope NLaw ["_law_script"] (defScope sLaw) := ⟨rfl, rfl, rfl, by decide +kernel, rfl, by decide +kernel, by decide +kernel⟩
section
variable {P : Program} {w : World} {K : PySem.W.Frag} {mg : Str → Option Value} {base : Heap} {BK B : Addr} {mc : Value}
theorem mem_commas : ∀ (xs : List (List Str)) (y : Str), y ∈ Tr.commas xs → y = "," ∨ ∃ l ∈ xs, y ∈ l := by
  intro xs y hy
  cases xs with
  | nil => cases hy
  | cons a xs =>
    rcases List.mem_append.mp (show y ∈ a ++ _ from hy) with h | h
    · exact .inr ⟨a, List.mem_cons_self, h⟩
    · obtain ⟨l, hl, h⟩ := List.mem_flatten.mp h
      obtain ⟨z, hz, rfl⟩ := List.mem_map.mp hl
      rcases List.mem_cons.mp h with h | h
      · exact .inl h
      · exact .inr ⟨z, List.mem_cons_of_mem _ hz, h⟩
theorem toks_wd : ∀ (n : Nat) (t : Tr n), Tr.Ok n t → ∀ x ∈ Tr.toks n t, Word x.cps.toList ∨ x ∈ (["{", "}", ":", ",", "*", "!"] : List Str) := by
  refine Tr.ind (fun n k h x hx => ?_) (fun n m es ih ho x hx => ?_)
  · rw [Tr.toks_bag] at hx
    rw [List.mem_singleton.mp hx]
    have hk : k ∈ kinds := by rw [← Tr.ok_bag (n := n)]; exact h
    have : k = "*" ∨ k = "!" := by simpa [kinds] using hk
    rcases this with rfl | rfl
    · exact .inr (by simp)
    · exact .inr (by simp)
  · rw [Tr.toks_tab] at hx
    rcases List.mem_cons.mp hx with e | hx
    · rw [e]; exact .inl (mode_word ho.1)
    rcases List.mem_cons.mp hx with e | hx
    · rw [e]; exact .inr (by simp)
    rcases List.mem_append.mp hx with hx | hx
    · rcases mem_commas _ _ hx with e | ⟨l, hl, hx⟩
      · rw [e]; exact .inr (by simp)
      · obtain ⟨e, he, rfl⟩ := List.mem_map.mp hl
        rcases List.mem_cons.mp hx with h | hx
        · rw [h]
          exact .inl (key_word (ho.2.2.2 e he).1)
        rcases List.mem_cons.mp hx with h | hx
        · rw [h]; exact .inr (by simp)
        · exact ih e he (ho.2.2.2 e he).2 x hx
    · rw [List.mem_singleton.mp hx]; exact .inr (by simp)
def endL : List Str := ["}", "{", ",", ":", "*", "!", "live", "abc", "(", "7", "_"]
theorem end_ok : ∀ x ∈ endL, tkB x = true ∧ x.length ≤ 9 := by decide +kernel
/-- the last token is no word -/
theorem last_word {ts : List Str} {ps : List (Nat × List Nat)} {e s : Nat} {t : List Nat} (G : Gd3 ts ps e) (hl : ps.getLast? = some (s, t)) : ¬ Word t := fun hw => by
  obtain ⟨b, hb, hd⟩ := G.st
  rw [List.getLast?_eq_getElem?] at hl
  have et := G.at_ hl
  obtain ⟨c, d, h1, h2, h3⟩ := steps_at hb _ _ et
  have hlen : ps.length - 1 + 1 = ts.length := by
    have : ps.length ≠ 0 := fun z => by
      rw [z] at hl
      have : ps = [] := List.length_eq_zero_iff.mp z
      rw [this] at hl
      cases hl
    have := G.plen
    omega
  rw [hlen, List.drop_length] at h3
  injection h3 with h3
  subst h3
  have hwx : Word (tx t).cps.toList := by rw [tx_cps]; exact hw
  by_cases hk : c.ph = .key
  · unfold Au.step at h2
    rw [hk] at h2
    dsimp only at h2
    split at h2
    · injection h2 with h2
      rw [← h2] at hd
      cases hd
    · cases h2
  · rw [(word_mode h2 hwx hk).2] at hd
    cases hd
theorem ok_law {f : Addr} {fd : FuncData} (F : Fun K "law" "law" sLaw f fd) (T : Bn mg) (c : Calls P w K mg base BK B mc) : FnG P w K mg base CX0 17 f fd ["_law_script"] (spLaw K) := by
  refine Fun.okG F scLaw (fun vs H Q E h => ?_) (fun cdv A outer s H vs Q E hr gu h => ?_)
  · obtain ⟨a, ns, rfl, _⟩ := h
    rfl
  · obtain ⟨a, ns, rfl, ha, few, k⟩ := h
    have hu := hr.units
    refine ⟨_, (pss_cons (ps_for PassesOwn.never rfl (pi_range1 (by rfl) T.range (pa_cons (pe_callB (call_max2 rfl) (by rfl) T.max boot_max (pa_cons pe_int (pa_cons (pe_callB (call_min2 rfl) (by rfl) T.min boot_min (pa_cons pe_int (pa_cons (pe_callB call_len_seq (by rfl) T.len PySem.boot_len (pa_cons (pv 0) pa_nil)) pa_nil))) pa_nil))) pa_nil)) (pg_name (i := 1) scLaw.nd rfl (.inl rfl))
        (pss_cons (ps_set (i := 2) scLaw.nd rfl (.inl rfl) (pe_c c.source hr (by decide) rfl (pa_cons (pv 0) (pa_cons (pv 1) pa_nil))))
        (pss_cons (ps_set (i := 3) scLaw.nd rfl (.inl rfl) (pe_c c.tab hr (by decide) rfl (pa_cons (pv 2) (pa_cons (pe_c c.words hr (by decide) rfl (pa_cons (pv 2) (pa_cons (pe_op op_add pe_int (pe_c c.take hr (by decide) rfl (pa_cons (pv 2) (pa_cons pe_int pa_nil)))) pa_nil))) (pa_cons (pe_lst (pa_cons pe_int (pa_cons pe_int pa_nil))) (pa_cons pe_int pa_nil))))))
        (pss_cons (ps_set (i := 4) scLaw.nd rfl (.inl rfl) (pe_c c.toks hr (by decide) rfl (pa_cons (pv 3) pa_nil)))
        (pss_cons (ps_asg (pe_c c.loose hr (by decide) rfl (pa_cons (pv 2) (pa_cons (pv 4) pa_nil))) (pg_tup rfl (pgs_cons (pg_name (i := 5) scLaw.nd rfl (.inl rfl)) (pgs_cons (pg_name (i := 6) scLaw.nd rfl (.inl rfl)) pgs_nil))))
        (pss_cut (ps_set (i := 7) scLaw.nd rfl (.inl rfl) (pe_cm0 c.read hr (by decide) (pe_glob (v := .ref BK) rfl c.gl rfl) (pa_cons (pv 5) pa_nil)))
        (pss_cut (ps_par (i := 8) (j := 9) rfl scLaw.nd rfl rfl (by decide) rfl rfl (pa_cons (pe_c c.take hr (by decide) rfl (pa_cons (pv 2) (pa_cons (pe_callB call_len_seq (by rfl) T.len PySem.boot_len (pa_cons (pv 4) pa_nil)) pa_nil))) (pa_cons (pe_c c.take hr (by decide) rfl (pa_cons (pv 2) (pa_cons pe_int pa_nil))) pa_nil)) (by rfl))
        (pss_cut (ps_if (pt_cmpR op_eq (pv 9) pe_int (nomark _)) (pss_one (ps_par (i := 10) (j := 11) rfl scLaw.nd rfl rfl (by decide) rfl rfl (pa_cons (pe_slice sl_str (pv 5) po_none (po_some (pe_ix ix_list (pv 6) (pv 8) (fun _ _ => rfl)))) (pa_cons (pe_ix ix_list (pv 6) (pv 8) (fun _ _ => rfl)) pa_nil)) (by rfl))) (pss_one (ps_if (pt_cmpR op_eq (pv 9) pe_int (nomark _)) (pss_cut (ps_set (i := 10) scLaw.nd rfl (.inl rfl) (pe_op op_add_str (pv 5) (pe_op op_repS pe_str (pe_c c.take hr (by decide) rfl (pa_cons (pv 2) (pa_cons pe_int pa_nil))))))
          (pss_cons (ps_set (i := 11) scLaw.nd rfl (.inl rfl) (pe_callB call_len_str (by rfl) T.len PySem.boot_len (pa_cons (pv 10) pa_nil)))
          (pss_one (ps_set (i := 10) scLaw.nd rfl (.inl rfl) (pe_op op_add_str (pv 10) (pe_c c.of_ hr (by decide) rfl (pa_cons (pv 2) (pa_cons (pe_lst (pa_cons pe_str (pa_cons pe_str (pa_cons pe_str (pa_cons pe_str (pa_cons pe_str (pa_cons pe_str (pa_cons pe_str (pa_cons pe_str (pa_cons pe_str (pa_cons pe_str (pa_cons pe_str pa_nil)))))))))))) pa_nil)))))))) (pss_one (ps_if (pt_cmpR op_eq (pv 9) pe_int (nomark _)) (pss_one (ps_asg (pe_c c.inside hr (by decide) rfl (pa_cons (pv 2) (pa_cons (pv 4) (pa_cons (pv 5) (pa_cons (pv 6) pa_nil))))) (pg_tup rfl (pgs_cons (pg_name (i := 10) scLaw.nd rfl (.inl rfl)) (pgs_cons (pg_name (i := 11) scLaw.nd rfl (.inl rfl)) pgs_nil))))) (pss_one (ps_if (pt_cmpR op_eq (pv 9) pe_int (nomark _)) (pss_one (ps_asg (pe_c c.longer hr (by decide) rfl (pa_cons (pv 2) (pa_cons (pv 4) (pa_cons (pv 5) (pa_cons (pv 6) pa_nil))))) (pg_tup rfl (pgs_cons (pg_name (i := 10) scLaw.nd rfl (.inl rfl)) (pgs_cons (pg_name (i := 11) scLaw.nd rfl (.inl rfl)) pgs_nil))))) (pss_cut (ps_set (i := 12) scLaw.nd rfl (.inl rfl) (pe_op op_add_str (pe_slice sl_str (pv 5) po_none (po_some (pe_ix ix_list (pv 6) (pv 8) (fun _ _ => rfl)))) pe_str))
          (pss_cons (ps_set (i := 11) scLaw.nd rfl (.inl rfl) (pe_callB call_len_str (by rfl) T.len PySem.boot_len (pa_cons (pv 12) pa_nil)))
          (pss_one (ps_set (i := 10) scLaw.nd rfl (.inl rfl) (pe_op op_add_str (pe_op op_add_str (pe_op op_add_str (pv 12) (pe_c c.wrong hr (by decide) rfl (pa_cons (pv 2) (pa_cons (pv 4) (pa_cons (pv 8) pa_nil))))) pe_str) (pe_slice sl_str (pv 5) (po_some (pe_op op_add (pe_ix ix_list (pv 6) (pv 8) (fun _ _ => rfl)) (pe_callB call_len_str (by rfl) T.len PySem.boot_len (pa_cons (pe_ix ix_list (pv 4) (pv 8) (fun _ _ => rfl)) pa_nil)))) po_none)))))))))))))
        (pss_cut (ps_if (pt_cmpR (op_neD hu) (pe_c c.told hr (by decide) rfl (pa_cons (pv 10) pa_nil)) (pe_tup (pa_cons (pv 11) (pa_cons pe_bl pa_nil))) (nomark _)) (pss_one (ps_ret pe_bl)) pss_nil)
        (pss_one (ps_if (PW.pt (pw_or (pt_cmpR op_ne (pe_callTy (cr_strO c.str hr (by decide)) (by rfl) T.str boot_str (pa_cons (pv 7) pa_nil)) (pe_c c.wr hr (by decide) rfl (pa_cons (pv 3) pa_nil)) (nomark _)) (pw_or1 (pt_cmpR (op_neO (K := K) rfl c.eq hr (by decide)) (pe_cm0 c.read hr (by decide) (pe_glob (v := .ref BK) rfl c.gl rfl) (pa_cons (pv 5) pa_nil)) (pv 7) (nomark _))))) (pss_one (ps_ret pe_bl)) pss_nil)))))))))))
        (pss_one (ps_ret pe_bl))), ?_⟩
    refine ⟨_, rfl, a, _, rfl, .inl ha, _, _, rfl, _, _, rfl, _, rfl, ?_, ?_, ?_⟩
    · split <;> split <;> omega
    · split <;> split <;> simp at * <;> omega
    refine for_range (lo := 0) (fun _ σ H1 => But (fun _ => False) H H1 ∧ ∃ x1 x2 x3 x4 x5 x6 x7 x8 x9 x10 x11 x12 : Option V, σ = [some (.ref a), x1, x2, x3, x4, x5, x6, x7, x8, x9, x10, x11, x12])
      ⟨But.refl, _, _, _, _, _, _, _, _, _, _, _, _, rfl⟩ ?_ (fun σ H1 h => k H1)
    rintro i σ H1 hi ⟨g1, x1, x2, x3, x4, x5, x6, x7, x8, x9, x10, x11, x12, rfl⟩
    refine ⟨_, rfl, _, rfl, a, ns, _, rfl, by omega, SqL.grow ha g1, fun S H2 hS src2 g2 => ?_⟩
    refine ⟨_, rfl, _, rfl, _, rfl, S, 4, rfl, by decide, by decide, src2, fun r c0 st0 m0 r0 r4 => ?_⟩
    obtain ⟨rn, rfl⟩ := Int.eq_ofNat_of_zero_le r0
    refine ⟨_, _, rfl, rfl, S, 3 + rn, by show [V.ref S, V.int ((3 : Int) + (rn : Int))] = _; rw [show (3 : Int) + (rn : Int) = ((3 + rn : Nat) : Int) by omega], by omega, by omega, ⟨_, _, _, upd_same⟩, fun wl ws H3 hwl ewl lws ndw kws src3 b3 => ⟨szle (by simp), fun lf hlf => ?_⟩⟩
    have g3 : But (fun _ => False) H1 H3 := fun z o h _ => b3 z o (by rw [upd_ne (ne_of_none h hS)]; exact g2 z o h id) (ne_of_none h hS)
    have b34 : But (fun _ => False) H3 (upd H3 lf (.lst [.int 5, .int 5])) := But.new hlf
    have elf : (upd H3 lf (.lst [.int 5, .int 5])) lf = some (.lst [.int 5, .int 5]) := upd_same
    generalize upd H3 lf (.lst [.int 5, .int 5]) = H4 at b34 elf ⊢
    have g4 := g3.trans b34
    have src4 := SrcAt.but src3 b34
    have nSw : S ≠ wl := fun e => by rw [← e, upd_same] at hwl; cases hwl
    have nSl : S ≠ lf := fun e => src_ne' src3 (e ▸ hlf)
    refine ⟨S, wl, lf, ws, 1, 5, 5, rfl, rfl, src4, b34 _ _ ewl id, elf, nSw, nSl, ne_of_none ewl hlf, by omega, by omega, ndw, kws, by decide, by decide, fun v t t1 b1 G H5 hR hO hF hnt hnb dp pa fr src5 hlf5 b45 => ?_⟩
    have g5 : But (fun _ => False) H1 H5 := fun z o h _ => b45 z o (g4 z o h id) (fun e => e.elim (fun e => ne_of_none h hS e) (fun e => ne_of_none h (g3.free hlf) e))
    have gS : G S = none := fr S (src_ne' src4)
    have rb : Rdb t := ⟨hR, hO, hF, by omega, by omega⟩
    clear b45 hlf5 hlf src4 b34 elf src3 b3 ewl hwl src2 g3 g4 fr
    -- one
    have few5 : (Tr.rows 4 [] t).length ≤ 12 := by rw [Tr.rows_count]; omega
    have hTl := Tr.toks_len 4 t []
    refine ⟨_, rfl, v, t, rfl, Dp.part pa _ _ dp, by omega, fun tl H6 htl etl g56 => ?_⟩
    have src6 := SrcAt.but src5 g56
    have nSt : S ≠ tl := fun z => src_ne' src5 (z ▸ htl)
    refine ⟨_, rfl, _, rfl, S, tl, _, rfl, src6, SqL.of etl, nSt, by omega, Tr.toks_short _ t hO, fun p q ps e H7 hps hlen hp hq ep eq src7 b67 => ?_⟩
    have g7 : But (fun _ => False) H1 H7 := fun z o h _ => b67 z o (g56 z o (g5 z o h id) id) (ne_of_none h hS)
    have pa7 : Part G H7 := fun b o h => b67 b o (g56 b o (pa b o h) id) (fun z => by rw [z, gS] at h; cases h)
    have etl7 := b67 _ _ etl nSt.symm
    have nSq : S ≠ q := fun z => src_ne' src6 (z ▸ hq)
    refine ⟨p, _, rfl, .inl (.inl ep), rfl, _, _, rfl, _, _, rfl, rfl, ?_⟩
    obtain ⟨s3, er, em⟩ := read_loose rfl hR hO hF (by omega) (by omega) (e := e) hps
    have G3 : Gd3 (Tr.toks 4 t) ps e := by
      refine ⟨hps, (Tr.alt_toks 4 t hO).alt.apart ps hps, ?_, by omega, ?_, by omega, Tr.toks_short _ t hO, ?_⟩
      · obtain ⟨ms, hd, _⟩ := (read_due (tx (loose ps e))).2 s3 er
        rw [tx_cps, toks_of_loose hO hps, placed_tw, hps] at hd
        obtain ⟨b, h1, h2, _⟩ := due_steps _ _ _ _ hd
        exact ⟨b, h1, h2⟩
      · obtain ⟨m0, r0, em0, hm0⟩ := Tr.head_tab 4 t hR hO
        exact ⟨m0, r0, em0, List.contains_iff_mem.mpr hm0⟩
      · exact toks_wd 4 t hO
    have rdB : ∀ (H' : Hp) (Q' : VK), (∀ b D H'', BkTr BK H'' b D 4 (Tr.srt 4 t) → But (fun _ => False) H' H'' → Q' (.ref b) H'') → spRead K BK B [.ref BK, .str (tx (loose ps e))] H' Q' E0 := fun H' Q' kq => by
      refine ⟨.str (tx (loose ps e)), .str (tx (loose ps e)), rfl, .str _, .inr ⟨_, rfl, by rw [tx_len]; omega, fun pp epp => (by rw [er] at epp; cases epp), fun s2 es2 => ?_⟩⟩
      rw [er] at es2
      injection es2 with es2
      subst es2
      refine ⟨Tr.marks 4 [] t, em, ⟨Tr.marks_diff hO [], by rw [Tr.marks_rows, List.length_map]; omega, let ⟨tl, z, _⟩ := Tr.marks_head 4 t []; ⟨_, tl, z, rfl⟩⟩, fun b D H8 hb hD BA g78 => ?_⟩
      rw [Tr.marks_sorted hO] at BA
      exact kq b D H8 ⟨BA.ob, ⟨BA.ma, Tr.ok_srt _ _ hO, by rw [Tr.rows_srt _ _ hO]; omega, by decide⟩, by decide⟩ g78
    refine ⟨fun σ H8 => ∃ b D, σ = [some (.ref a), some (.int (0 + (i : Int))), some (.ref S), some v, some (.ref tl), some (.str (tx (loose ps e))), some (.ref q), some (.ref b), x8, x9, x10, x11, x12] ∧ Sta BK H1 S G b D t H8 ∧ H8 tl = some (.lst ((Tr.toks 4 t).map V.str)) ∧ H8 q = some (.lst ((placed 0 ps).map fun x => V.int (x.1 : Nat))), ?_, ?_⟩
    · refine ⟨rfl, _, rfl, ?_⟩
      dsimp only [tNil]
      exact rdB _ _ fun b D H8 bt g78 => ⟨b, D, rfl, ⟨SrcAt.but src7 g78, pa7.grow g78, bt, g7.trans g78⟩, g78 _ _ etl7 id, g78 _ _ eq id⟩
    rintro σ H8 ⟨b, D, rfl, s8, etl8, eq8⟩
    have len3 : (loose ps e).length ≤ 900 := by omega
    refine ⟨fun σ H9 => ∃ kI kd : Nat, kI < (Tr.toks 4 t).length ∧ σ = [some (.ref a), some (.int (0 + (i : Int))), some (.ref S), some v, some (.ref tl), some (.str (tx (loose ps e))), some (.ref q), some (.ref b), some (.int (kI : Nat)), some (.int (kd : Nat)), x10, x11, x12] ∧ Sta BK H1 S G b D t H9 ∧ H9 tl = some (.lst ((Tr.toks 4 t).map V.str)) ∧ H9 q = some (.lst ((placed 0 ps).map fun x => V.int (x.1 : Nat))), ?_, ?_⟩
    · refine ⟨_, rfl, _, rfl, tl, _, rfl, .inl (SqL.of etl8), S, _, rfl, ?_, ?_, s8.src, fun z c1 st1 m1 z0 z1 => ?_⟩
      · obtain ⟨m0, r0, em0, _⟩ := G3.hd
        rw [em0]
        simp
      · exact log_small (by rw [List.length_map]; omega)
      obtain ⟨kI, rfl⟩ := Int.eq_ofNat_of_zero_le z0
      have s9 : Sta BK H1 S G b D t (upd H8 S (src c1 st1 m1)) := s8.but gS hS But.src ⟨_, _, _, upd_same⟩
      have etl9 : (upd H8 S (src c1 st1 m1)) tl = _ := (upd_ne nSt.symm).trans etl8
      have eq9 : (upd H8 S (src c1 st1 m1)) q = _ := (upd_ne nSq.symm).trans eq8
      dsimp only [tNil]
      generalize upd H8 S (src c1 st1 m1) = H9 at s9 etl9 eq9 ⊢
      refine ⟨_, rfl, S, 6, rfl, by decide, by decide, s9.src, fun z2 c2 st2 m2 w0 w1 => ?_⟩
      obtain ⟨kd, rfl⟩ := Int.eq_ofNat_of_zero_le w0
      refine ⟨_, _, rfl, kI, kd, ?_, rfl, s9.but gS hS But.src ⟨_, _, _, upd_same⟩, (upd_ne nSt.symm).trans etl9, (upd_ne nSq.symm).trans eq9⟩
      rw [List.length_map] at z1
      omega
    rintro σ H9 ⟨kI, kd, hkI, rfl, s9, etl9, eq9⟩
    have hkp : kI < ps.length := by rw [G3.plen]; exact hkI
    obtain ⟨s, tk, epk⟩ : ∃ s tk, ps[kI]? = some (s, tk) := ⟨_, _, List.getElem?_eq_getElem hkp⟩
    obtain ⟨c0, d0, hc0, hd0, _⟩ := G3.state epk
    have hst : atI ((placed 0 ps).map fun x => V.int (x.1 : Nat)) (kI : Int) = some (V.int (((loose (ps.take kI) 0).length + s : Nat) : Int)) := atI_nat (by rw [List.getElem?_map, placed_at (n := 0) epk, Nat.zero_add]; rfl)
    have lall : (loose (ps.take kI) 0).length + s + tk.length + (loose (ps.drop (kI + 1)) e).length = (loose ps e).length := by
      rw [loose_at e epk]
      simp
      omega
    refine ⟨fun σ H10 => ∃ (z : Str) (pos : Nat) (y12 : Option V), σ = [some (.ref a), some (.int (0 + (i : Int))), some (.ref S), some v, some (.ref tl), some (.str (tx (loose ps e))), some (.ref q), some (.ref b), some (.int (kI : Nat)), some (.int (kd : Nat)), some (.str z), some (.int (pos : Nat)), y12] ∧ rdWhole (rdStart z) = .error pos ∧ z.length ≤ 90000 ∧ Sta BK H1 S G b D t H10, ?_, ?_⟩
    · refine ⟨_, rfl, rfl, _, rfl, ite2 (fun _ => ?_) (fun _ => ?_)⟩
      · obtain ⟨p1, _⟩ := G3.part epk 0 (Nat.zero_le _)
        refine ⟨_, rfl, _, rfl, _, rfl, q, _, _, _, rfl, rfl, SqL.of eq9, hst, _, rfl, tx (loose ps e), rfl, szle (by rw [tx_len]; omega), ?_⟩
        rw [cut_pre]
        refine ⟨_, rfl, _, rfl, q, _, _, _, rfl, rfl, SqL.of eq9, hst, _, _, rfl, _, _, _, rfl, ?_, ?_, s9⟩
        · rw [Nat.add_zero, List.take_zero, List.append_nil] at p1
          rw [p1]
          exact G3.cutoff hc0 s (fun z => by unfold Au.step at hd0; rw [z] at hd0; cases hd0)
        · rw [tx_len, List.length_take]
          omega
      refine ⟨_, rfl, rfl, _, rfl, ite2 (fun _ => ?_) (fun _ => ?_)⟩
      · refine ⟨fun σ H10 => ∃ n0 : Nat, n0 ≤ 2 ∧ σ = [some (.ref a), some (.int (0 + (i : Int))), some (.ref S), some v, some (.ref tl), some (.str (tx (loose ps e))), some (.ref q), some (.ref b), some (.int (kI : Nat)), some (.int (kd : Nat)), some (.str (tx (loose ps e ++ List.replicate n0 32))), x11, x12] ∧ Sta BK H1 S G b D t H10, ?_, ?_⟩
        · refine ⟨_, rfl, _, rfl, S, 3, rfl, by decide, by decide, s9.src, fun z c2 st2 m2 w0 w1 => ?_⟩
          obtain ⟨n0, rfl⟩ := Int.eq_ofNat_of_zero_le w0
          refine ⟨n0, rfl, rfl, by omega, _, _, rfl, rfl, szle ?_, n0, by omega, ?_, s9.but gS hS But.src ⟨_, _, _, upd_same⟩⟩
          · rw [tx_len, tx_len, List.length_replicate]
            omega
          · rw [← tx_app]
            rfl
        rintro σ H10 ⟨n0, hn0, rfl, s10⟩
        refine ⟨_, rfl, _, rfl, szle (by rw [tx_len, List.length_append, List.length_replicate]; omega), ?_⟩
        refine ⟨_, rfl, _, rfl, szle (by simp), fun l hl => ?_⟩
        have s11 := s10.grow (But.new (o := .lst (endL.map V.str)) hl)
        have nSl2 : S ≠ l := fun z => src_ne' s10.src (z ▸ hl)
        refine ⟨S, l, endL.map V.str, rfl, s11.src, SqL.of upd_same, nSl2, by decide, by decide, fun i2 v2 c2 st2 m2 hv => ?_⟩
        rw [List.getElem?_map, Option.map_eq_some_iff] at hv
        obtain ⟨y, hy, rfl⟩ := hv
        have hym := List.mem_of_getElem? hy
        have hok := end_ok y hym
        obtain ⟨bb, hb1, hb2⟩ := G3.st
        have hr := G3.refuse (k := ps.length) (c := bb) (by rw [G3.plen, List.take_length]; exact hb1) (s := e + n0) (x := y.cps.toList) (rest := []) (tkB_tk hok.1) (fun _ c r z => by cases z) (fun s' t' h1 h2 => by
          rw [List.take_length] at h1
          exact absurd h2 (last_word G3 h1)) (by rw [show tx y.cps.toList = y from str_ext (by rw [tx_cps])]; unfold Au.step; rw [hb2])
        rw [List.take_length, List.append_nil] at hr
        have ez : tx (loose ps e ++ List.replicate n0 32) ++ y = tx (loose ps 0 ++ (List.replicate (e + n0) 32 ++ y.cps.toList)) := by
          apply str_ext
          rw [tx_cps]
          show ((tx (loose ps e ++ List.replicate n0 32)).cps ++ y.cps).toList = _
          rw [Array.toList_append, tx_cps, loose_end ps e, ← List.replicate_append_replicate]
          simp
        have epos : (tx (loose ps e ++ List.replicate n0 32)).length = (loose ps 0).length + (e + n0) := by
          rw [tx_len, loose_end ps e]
          simp
        refine ⟨_, _, rfl, rfl, szle ?_, _, _, _, rfl, ?_, ?_, s11.but gS hS But.src ⟨_, _, _, upd_same⟩⟩
        · rw [tx_len, List.length_append, List.length_replicate]
          have := hok.2
          omega
        · rw [ez, epos]
          exact hr
        · rw [ez, tx_len]
          have l1 : y.cps.toList.length = y.length := by show _ = y.cps.size; simp
          have := hok.2
          have l2 : (loose ps e).length = (loose ps 0).length + e := by rw [loose_end ps e]; simp
          simp only [List.length_append, List.length_replicate]
          omega
      refine ⟨_, rfl, rfl, _, rfl, ite2 (fun _ => ?_) (fun _ => ?_)⟩
      · refine ⟨_, rfl, _, rfl, _, rfl, _, rfl, S, tl, q, _, ps, e, rfl, s9.src, SqL.of etl9, SqL.of eq9, nSt, nSq, G3, fun r z pos H' hr0 erz lz er' src' b' => ?_⟩
        exact ⟨r, _, rfl, .inl (.inl er'), rfl, _, _, rfl, _, _, rfl, rfl, z, pos, _, rfl, erz, lz, s9.but gS hS b' src'⟩
      refine ⟨_, rfl, rfl, _, rfl, ite2 (fun _ => ?_) (fun _ => ?_)⟩
      · refine ⟨_, rfl, _, rfl, _, rfl, _, rfl, S, tl, q, _, ps, e, rfl, s9.src, SqL.of etl9, SqL.of eq9, nSt, nSq, G3, fun r z pos H' hr0 erz lz er' src' b' => ?_⟩
        exact ⟨r, _, rfl, .inl (.inl er'), rfl, _, _, rfl, _, _, rfl, rfl, z, pos, _, rfl, erz, lz, s9.but gS hS b' src'⟩
      · obtain ⟨p1, _⟩ := G3.part epk 0 (Nat.zero_le _)
        obtain ⟨_, p2⟩ := G3.part epk tk.length (Nat.le_refl _)
        rw [Nat.add_zero, List.take_zero, List.append_nil] at p1
        rw [List.drop_length, List.nil_append] at p2
        refine ⟨fun σ H10 => σ = [some (.ref a), some (.int (0 + (i : Int))), some (.ref S), some v, some (.ref tl), some (.str (tx (loose ps e))), some (.ref q), some (.ref b), some (.int (kI : Nat)), some (.int (kd : Nat)), x10, x11, some (.str (tx (loose (ps.take kI) 0 ++ List.replicate (s + 1) 32)))] ∧ H10 = H9, ?_, ?_⟩
        · refine ⟨_, rfl, _, rfl, _, rfl, q, _, _, _, rfl, rfl, SqL.of eq9, hst, _, rfl, tx (loose ps e), rfl, szle (by rw [tx_len]; omega), ?_⟩
          rw [cut_pre, p1]
          have ez : tx (loose (ps.take kI) 0 ++ List.replicate s 32) ++ Str.ofString " " = tx (loose (ps.take kI) 0 ++ List.replicate (s + 1) 32) := by
            rw [show Str.ofString " " = tx [32] by decide +kernel, tx_app, List.replicate_succ', List.append_assoc]
          refine ⟨_, _, rfl, rfl, szle ?_, ?_, rfl⟩
          · rw [tx_len, List.length_append, List.length_replicate]
            have : (Str.ofString " ").length = 1 := by decide +kernel
            omega
          · rw [← ez]
            rfl
        rintro σ H10 ⟨rfl, e10⟩
        cases e10
        have lst : (loose (ps.take kI) 0 ++ List.replicate (s + 1) 32).length = (loose (ps.take kI) 0).length + (s + 1) := by
          rw [List.length_append, List.length_replicate]
        refine ⟨_, rfl, _, rfl, szle (by rw [tx_len, lst]; omega), ?_⟩
        refine ⟨_, rfl, _, rfl, _, rfl, _, rfl, S, tl, _, ps, e, kI, s, tk, rfl, s9.src, SqL.of etl9, nSt, G3, epk, fun y H11 ty sy ny src11 b11 => ?_⟩
        have s11 := s9.but gS hS b11 src11
        have eq11 : H11 q = _ := b11 _ _ eq9 nSq.symm
        have etl11 : H11 tl = _ := b11 _ _ etl9 nSt.symm
        have htk : atI ((Tr.toks 4 t).map V.str) (kI : Int) = some (V.str (tx tk)) := atI_nat (by rw [List.getElem?_map, G3.at_ epk]; rfl)
        obtain ⟨yl, rfl⟩ : ∃ yl, y = tx yl := ⟨y.cps.toList, (str_ext (by rw [tx_cps])).symm⟩
        rw [tx_cps] at ty
        rw [tx_len] at sy
        refine ⟨_, _, rfl, rfl, szle (by rw [tx_len, tx_len, lst]; omega), _, _, rfl, rfl, szle ?_, ?_⟩
        · rw [tx_app, tx_len, List.length_append, lst, show (Str.ofString " ").length = 1 by decide +kernel]
          omega
        refine ⟨_, rfl, _, rfl, _, rfl, q, _, _, _, rfl, rfl, SqL.of eq11, hst, _, rfl, _, rfl, tl, _, _, _, rfl, rfl, SqL.of etl11, htk, tx tk, rfl, szle (by rw [tx_len]; omega), _, _, rfl, rfl, _, rfl, ?_⟩
        dsimp only [tNoPart]
        refine ⟨tx (loose ps e), rfl, szle (by rw [tx_len]; omega), ?_⟩
        rw [show cutS (tx (loose ps e)) (some ((((loose (ps.take kI) 0).length + s : Nat) : Int) + ((tx tk).length : Nat))) none = tx (loose (ps.drop (kI + 1)) e) by rw [tx_len, show ((((loose (ps.take kI) 0).length + s : Nat) : Int) + (tk.length : Nat)) = (((loose (ps.take kI) 0).length + s + tk.length : Nat) : Int) by omega, cut_suf, p2]]
        have hr := G3.refuse hc0 (s := s + 1) (x := yl) (rest := 32 :: loose (ps.drop (kI + 1)) e) ty (fun _ c r z => by injection z with z; rw [← z]; decide) (fun _ _ _ _ => .inl (by omega)) (ny c0 hc0)
        have ez : tx (loose (ps.take kI) 0 ++ List.replicate (s + 1) 32) ++ tx yl ++ Str.ofString " " ++ tx (loose (ps.drop (kI + 1)) e) = tx (loose (ps.take kI) 0 ++ (List.replicate (s + 1) 32 ++ (yl ++ 32 :: loose (ps.drop (kI + 1)) e))) := by
          rw [show Str.ofString " " = tx [32] by decide +kernel, tx_app, tx_app, tx_app]
          congr 1
          simp
        refine ⟨_, _, rfl, rfl, szle ?_, _, _, _, rfl, ?_, ?_, s11⟩
        · rw [show Str.ofString " " = tx [32] by decide +kernel, tx_app, tx_app, tx_len, tx_len]
          simp only [List.length_append, List.length_replicate, List.length_singleton]
          omega
        · rw [ez, tx_len, lst]
          exact hr
        · rw [ez, tx_len]
          simp only [List.length_append, List.length_replicate, List.length_cons]
          omega
    rintro σ H10 ⟨z, pos, y12, rfl, erz, lz, s10⟩
    refine ⟨fun σ H11 => σ = [some (.ref a), some (.int (0 + (i : Int))), some (.ref S), some v, some (.ref tl), some (.str (tx (loose ps e))), some (.ref q), some (.ref b), some (.int (kI : Nat)), some (.int (kd : Nat)), some (.str z), some (.int (pos : Nat)), y12] ∧ Sta BK H1 S G b D t H11, ?_, ?_⟩
    · refine ⟨_, rfl, z, pos, rfl, lz, erz, fun r H11 hr0 er' g1011 => ?_⟩
      have s11 := s10.grow g1011
      refine ⟨_, rfl, szle (by simp), fun r2 hr2 => ?_⟩
      have g12 : But (fun _ => False) H11 (upd H11 r2 (.tup [.int (pos : Nat), .bl true])) := But.new hr2
      have dA : DpAll K (upd H11 r2 (.tup [.int (pos : Nat), .bl true])) [.int (pos : Nat), .bl true] [.int (pos : Nat), .bool true] := .cons (.int _) (.cons (.bl _) .nil)
      have sh : SeqAt.shaped (.tuple [.int (pos : Nat), .bool true]) = true := by simp [SeqAt.shaped, PyData.canLay0, PyData.canLayAll0, PyData.depth, PyData.depthAll]
      refine ⟨.tuple [.int (pos : Nat), .bool true], .tuple [.int (pos : Nat), .bool true], .tup (SqT.of (g12 _ _ er' id)) dA, .tup (SqT.of upd_same) dA, sh, sh, _, rfl, ?_⟩
      rw [show PyData.eqv (.tuple [.int (pos : Nat), .bool true]) (.tuple [.int (pos : Nat), .bool true]) = true by simp [PyData.eqv, PyData.eqvAll]]
      exact iteF ⟨rfl, s11.grow g12⟩
    rintro σ H11 ⟨rfl, s11⟩
    obtain ⟨dx, ob⟩ := s11.bt.ob
    refine ⟨_, rfl, b, dx, _, rfl, ob, b, D, 4, _, rfl, s11.bt, fun H12 g1112 => ?_⟩
    have s12 := s11.grow g1112
    refine ⟨_, rfl, _, rfl, v, t, rfl, Dp.part s12.pa _ _ dp, hO, by omega, fun H13 g1213 => ⟨rfl, _, rfl, ?_⟩⟩
    have s13 := s12.grow g1213
    rw [nil_app, app_nil, show shw true 4 (Tr.srt 4 t) = Tr.text 4 (Tr.srt 4 t) from rfl, decide_eq_true rfl]
    refine iteF ⟨rfl, _, rfl, ?_⟩
    dsimp only [tNil]
    refine rdB _ _ fun b2 D2 H14 bt2 g14 => ?_
    have s14 := s13.grow g14
    obtain ⟨dx14, ob14⟩ := s14.bt.ob
    obtain ⟨dx2, ob2⟩ := bt2.ob
    refine ⟨_, rfl, b2, dx2, _, _, rfl, ob2, c.ty.ty ob14, nf_self, b2, D2, 4, _, .ref b, rfl, bt2, .inl ⟨b, D, 4, _, rfl, s14.bt, _, rfl, _, rfl, ?_⟩⟩
    rw [eqMs_same (Tr.marks_diff (Tr.ok_srt 4 t hO) [])]
    exact iteF ⟨g1.trans s14.g, _, _, _, _, _, _, _, _, _, _, _, _, rfl⟩
end
end K03

set_option Elab.async false
set_option linter.all false
namespace K03
open PySem L2 L2.G42
theorem kit_b {K : PySem.W.Frag} {C : Addr} {T : String} {b : Bool} (h : PySem.W.subIn K (.ref C) (.type T) = some b) (hm : PySem.W.kitMeta T = true) : PySem.W.kitOne K (.ref C) (.type T) = some b := by
  unfold PySem.W.kitOne
  rw [if_neg (by simp)]
  show (if PySem.W.kitMeta T = true then PySem.W.subIn K (.ref C) (.type T) else none) = some b
  rw [if_pos hm, h]
/-- isinstance of an own class among own classes -/
theorem kit_r {K : PySem.W.Frag} {C N : Addr} {b : Bool} (hs : PySem.W.subIn K (.ref C) (.ref C) = some true) (h : PySem.W.subIn K (.ref C) (.ref N) = some b) (h2 : PySem.W.isClsIn K N = true) (h3 : PySem.W.typeIn K (.ref N) = some (.type "type")) : PySem.W.kitOne K (.ref C) (.ref N) = some b := by
  have h2' : (PySem.W.clsIn K N).isSome = true := h2
  unfold PySem.W.kitOne
  by_cases e : C = N
  · subst e
    rw [hs] at h
    injection h with h
    rw [if_pos (by simp), h]
  · rw [if_neg (by simp; exact fun z => e z)]
    show (if ((PySem.W.clsIn K N).isSome && PySem.W.typeIn K (.ref N) == some (.type "type")) = true then PySem.W.subIn K (.ref C) (.ref N) else none) = some b
    rw [h2', h3, if_pos (by rfl), h]
end K03

set_option Elab.async false
set_option linter.all false
set_option maxRecDepth 100000
set_option maxHeartbeats 8000000
set_option pp.maxSteps 60
set_option pp.deepTerms false
set_option pp.deepTerms.threshold 6
namespace K03
open PySem L2 L2.G42
theorem exm_self {K : PySem.W.Frag} {S : Addr} (h1 : PySem.W.subIn K (.ref S) (.type "BaseException") = some true) (h2 : PySem.W.isClsIn K S = true) (h3 : PySem.W.typeIn K (.ref S) = some (.type "type")) (h4 : PySem.W.subIn K (.ref S) (.ref S) = some true) :
    PySem.W.exmOne K (.ref S) (.ref S) = some true := by
  have h2' : (PySem.W.clsIn K S).isSome = true := h2
  unfold PySem.W.exmOne
  rw [h1, if_pos (by rfl)]
  show (if ((PySem.W.clsIn K S).isSome && PySem.W.typeIn K (.ref S) == some (.type "type")) = true then PySem.W.subIn K (.ref S) (.ref S) else none) = some true
  rw [h2', h3, if_pos (by rfl), h4]
theorem all_mk {l : PySem.W.OpenLaw} {w : World} {K : PySem.W.Frag} {h : Heap} {mg : Str → Option Value} {fa BK R B NE pRead : Addr} (X : K.In h) (G : h.Ns mainGlobals mg) (hfa : mg "law" = some (.ref fa))
    {fBadB fIsKey fToks fKu fWr fRInit fWord fRefuse fTakeR fWhole fTable fEntry fBInit fRead fBStr fBEq fSource fTake fOf fWords fLToks fLoose fLWr fLaw fTab fWants fBefore fKept fSigns fInside fLonger fWrong fTold : Addr} {odBadB anBadB odIsKey anIsKey odToks anToks odKu anKu odWr anWr odRInit anRInit odWord anWord odRefuse anRefuse odTakeR anTakeR odWhole anWhole odTable anTable odEntry anEntry odBInit anBInit odRead anRead odBStr anBStr odBEq anBEq odSource anSource odTake anTake odOf anOf odWords anWords odLToks anLToks odLoose anLoose odLWr anLWr odLaw anLaw odTab anTab odWants anWants odBefore anBefore odKept anKept odSigns anSigns odInside anInside odLonger anLonger odWrong anWrong odTold anTold : Option Addr} {slBadB slIsKey slToks slKu slWr slRInit slWord slRefuse slTakeR slWhole slTable slEntry slBInit slRead slBStr slBEq slSource slTake slOf slWords slLToks slLoose slLWr slLaw slTab slWants slBefore slKept slSigns slInside slLonger slWrong slTold : Array (Option Value)} {ocBadB dcBadB pmBadB cdBadB ctBadB kVBadB ocIsKey dcIsKey pmIsKey cdIsKey ctIsKey kVIsKey ocToks dcToks pmToks cdToks ctToks kVToks ocKu dcKu pmKu cdKu ctKu kVKu ocWr dcWr pmWr cdWr ctWr kVWr ocRInit dcRInit pmRInit cdRInit ctRInit kVRInit ocWord dcWord pmWord cdWord ctWord kVWord ocRefuse dcRefuse pmRefuse cdRefuse ctRefuse kVRefuse ocTakeR dcTakeR pmTakeR cdTakeR ctTakeR kVTakeR ocWhole dcWhole pmWhole cdWhole ctWhole kVWhole ocTable dcTable pmTable cdTable ctTable kVTable ocEntry dcEntry pmEntry cdEntry ctEntry kVEntry ocBInit dcBInit pmBInit cdBInit ctBInit kVBInit ocRead dcRead pmRead cdRead ctRead kVRead ocBStr dcBStr pmBStr cdBStr ctBStr kVBStr ocBEq dcBEq pmBEq cdBEq ctBEq kVBEq ocSource dcSource pmSource cdSource ctSource kVSource ocTake dcTake pmTake cdTake ctTake kVTake ocOf dcOf pmOf cdOf ctOf kVOf ocWords dcWords pmWords cdWords ctWords kVWords ocLToks dcLToks pmLToks cdLToks ctLToks kVLToks ocLoose dcLoose pmLoose cdLoose ctLoose kVLoose ocLWr dcLWr pmLWr cdLWr ctLWr kVLWr ocLaw dcLaw pmLaw cdLaw ctLaw kVLaw ocTab dcTab pmTab cdTab ctTab kVTab ocWants dcWants pmWants cdWants ctWants kVWants ocBefore dcBefore pmBefore cdBefore ctBefore kVBefore ocKept dcKept pmKept cdKept ctKept kVKept ocSigns dcSigns pmSigns cdSigns ctSigns kVSigns ocInside dcInside pmInside cdInside ctInside kVInside ocLonger dcLonger pmLonger cdLonger ctLonger kVLonger ocWrong dcWrong pmWrong cdWrong ctWrong kVWrong ocTold dcTold pmTold cdTold ctTold kVTold : Value} {nmB qB : Str} {NB : Addr} {bsB subB : List Value} {snB : List Str} {abB : Bool} {colB : Option Bool} {ddB : Option Addr} {b_0 b_1 b_2 b_3 b_5 : Option Value} {restR : List Value} {tLE kc0 kc1 kc2 kc3 : Tok} {tRES : Addr} {odRES : Option Addr} {nRES : Nat} {slRES : Array (Option Value)} {kRES0 kRES1 kRES2 kRES3 kRES4 kRES5 kRES6 kRES7 kRES8 kRES9 kRES10 kRES11 kRES12 kRES13 kRES14 kRES15 kRES16 kRES17 kRES18 : Tok} {tKIN : Addr} {odKIN : Option Addr} {nKIN : Nat} {slKIN : Array (Option Value)} {kKIN0 kKIN1 : Tok} {tMOD : Addr} {odMOD : Option Addr} {nMOD : Nat} {slMOD : Array (Option Value)} {kMOD0 kMOD1 kMOD2 : Tok} {BM NP : Addr}
    (aBK : PySem.W.nsIn K mainGlobals "Book" = some (some (.ref BK)))
    (aR : PySem.W.nsIn K mainGlobals "Reader" = some (some (.ref R)))
    (aB : PySem.W.nsIn K mainGlobals "BadBook" = some (some (.ref B)))
    (aNE : PySem.W.nsIn K mainGlobals "NestedError" = some (some (.ref NE)))
    (aBM : PySem.W.nsIn K mainGlobals "BadMode" = some (some (.ref BM)))
    (aNP : PySem.W.nsIn K mainGlobals "NoPlace" = some (some (.ref NP)))
    (aBadB : PySem.W.findIn K (.ref B) "__init__" = some (some (.ref fBadB))) (iBadB : PySem.W.isFn K (.ref fBadB) = true)
    (lBadB : K.lookup fBadB = some ⟨ocBadB, odBadB, .func (PySem.W.fnOf "__init__" "BadBook.__init__" (defArgs sBadB) (defBody sBadB) (defScope sBadB) .none kVBadB dcBadB pmBadB anBadB cdBadB ctBadB), slBadB⟩) (cBadB : PySem.W.codeIn K cdBadB "BadBook.__init__" = true) (kBadB : PySem.W.keepIn K (.ref fBadB) = true)
    (aIsKey : PySem.W.nsIn K mainGlobals "is_key" = some (some (.ref fIsKey)))
    (lIsKey : K.lookup fIsKey = some ⟨ocIsKey, odIsKey, .func (PySem.W.fnOf "is_key" "is_key" (defArgs sIsKey) (defBody sIsKey) (defScope sIsKey) .none kVIsKey dcIsKey pmIsKey anIsKey cdIsKey ctIsKey), slIsKey⟩) (cIsKey : PySem.W.codeIn K cdIsKey "is_key" = true) (kIsKey : PySem.W.keepIn K (.ref fIsKey) = true)
    (aToks : PySem.W.nsIn K mainGlobals "tokens_of" = some (some (.ref fToks)))
    (lToks : K.lookup fToks = some ⟨ocToks, odToks, .func (PySem.W.fnOf "tokens_of" "tokens_of" (defArgs sToks) (defBody sToks) (defScope sToks) .none kVToks dcToks pmToks anToks cdToks ctToks), slToks⟩) (cToks : PySem.W.codeIn K cdToks "tokens_of" = true) (kToks : PySem.W.keepIn K (.ref fToks) = true)
    (aKu : PySem.W.nsIn K mainGlobals "keys_under" = some (some (.ref fKu)))
    (lKu : K.lookup fKu = some ⟨ocKu, odKu, .func (PySem.W.fnOf "keys_under" "keys_under" (defArgs sKu) (defBody sKu) (defScope sKu) .none kVKu dcKu pmKu anKu cdKu ctKu), slKu⟩) (cKu : PySem.W.codeIn K cdKu "keys_under" = true) (kKu : PySem.W.keepIn K (.ref fKu) = true)
    (aWr : PySem.W.nsIn K mainGlobals "written" = some (some (.ref fWr)))
    (lWr : K.lookup fWr = some ⟨ocWr, odWr, .func (PySem.W.fnOf "written" "written" (defArgs sWr) (defBody sWr) (defScope sWr) .none kVWr dcWr pmWr anWr cdWr ctWr), slWr⟩) (cWr : PySem.W.codeIn K cdWr "written" = true) (kWr : PySem.W.keepIn K (.ref fWr) = true)
    (aRInit : PySem.W.findIn K (.ref R) "__init__" = some (some (.ref fRInit))) (iRInit : PySem.W.isFn K (.ref fRInit) = true)
    (lRInit : K.lookup fRInit = some ⟨ocRInit, odRInit, .func (PySem.W.fnOf "__init__" "Reader.__init__" (defArgs sRInit) (defBody sRInit) (defScope sRInit) .none kVRInit dcRInit pmRInit anRInit cdRInit ctRInit), slRInit⟩) (cRInit : PySem.W.codeIn K cdRInit "Reader.__init__" = true) (kRInit : PySem.W.keepIn K (.ref fRInit) = true)
    (aWord : PySem.W.findIn K (.ref R) "word" = some (some (.ref fWord))) (iWord : PySem.W.isFn K (.ref fWord) = true)
    (lWord : K.lookup fWord = some ⟨ocWord, odWord, .func (PySem.W.fnOf "word" "Reader.word" (defArgs sWord) (defBody sWord) (defScope sWord) .none kVWord dcWord pmWord anWord cdWord ctWord), slWord⟩) (cWord : PySem.W.codeIn K cdWord "Reader.word" = true) (kWord : PySem.W.keepIn K (.ref fWord) = true)
    (aRefuse : PySem.W.findIn K (.ref R) "refuse" = some (some (.ref fRefuse))) (iRefuse : PySem.W.isFn K (.ref fRefuse) = true)
    (lRefuse : K.lookup fRefuse = some ⟨ocRefuse, odRefuse, .func (PySem.W.fnOf "refuse" "Reader.refuse" (defArgs sRefuse) (defBody sRefuse) (defScope sRefuse) .none kVRefuse dcRefuse pmRefuse anRefuse cdRefuse ctRefuse), slRefuse⟩) (cRefuse : PySem.W.codeIn K cdRefuse "Reader.refuse" = true) (kRefuse : PySem.W.keepIn K (.ref fRefuse) = true)
    (aTakeR : PySem.W.findIn K (.ref R) "take" = some (some (.ref fTakeR))) (iTakeR : PySem.W.isFn K (.ref fTakeR) = true)
    (lTakeR : K.lookup fTakeR = some ⟨ocTakeR, odTakeR, .func (PySem.W.fnOf "take" "Reader.take" (defArgs sTakeR) (defBody sTakeR) (defScope sTakeR) .none kVTakeR dcTakeR pmTakeR anTakeR cdTakeR ctTakeR), slTakeR⟩) (cTakeR : PySem.W.codeIn K cdTakeR "Reader.take" = true) (kTakeR : PySem.W.keepIn K (.ref fTakeR) = true)
    (aWhole : PySem.W.findIn K (.ref R) "read_whole" = some (some (.ref fWhole))) (iWhole : PySem.W.isFn K (.ref fWhole) = true)
    (lWhole : K.lookup fWhole = some ⟨ocWhole, odWhole, .func (PySem.W.fnOf "read_whole" "Reader.read_whole" (defArgs sWhole) (defBody sWhole) (defScope sWhole) .none kVWhole dcWhole pmWhole anWhole cdWhole ctWhole), slWhole⟩) (cWhole : PySem.W.codeIn K cdWhole "Reader.read_whole" = true) (kWhole : PySem.W.keepIn K (.ref fWhole) = true)
    (aTable : PySem.W.findIn K (.ref R) "read_table" = some (some (.ref fTable))) (iTable : PySem.W.isFn K (.ref fTable) = true)
    (lTable : K.lookup fTable = some ⟨ocTable, odTable, .func (PySem.W.fnOf "read_table" "Reader.read_table" (defArgs sTable) (defBody sTable) (defScope sTable) .none kVTable dcTable pmTable anTable cdTable ctTable), slTable⟩) (cTable : PySem.W.codeIn K cdTable "Reader.read_table" = true) (kTable : PySem.W.keepIn K (.ref fTable) = true)
    (aEntry : PySem.W.findIn K (.ref R) "read_entry" = some (some (.ref fEntry))) (iEntry : PySem.W.isFn K (.ref fEntry) = true)
    (lEntry : K.lookup fEntry = some ⟨ocEntry, odEntry, .func (PySem.W.fnOf "read_entry" "Reader.read_entry" (defArgs sEntry) (defBody sEntry) (defScope sEntry) .none kVEntry dcEntry pmEntry anEntry cdEntry ctEntry), slEntry⟩) (cEntry : PySem.W.codeIn K cdEntry "Reader.read_entry" = true) (kEntry : PySem.W.keepIn K (.ref fEntry) = true)
    (aBInit : PySem.W.findIn K (.ref BK) "__init__" = some (some (.ref fBInit))) (iBInit : PySem.W.isFn K (.ref fBInit) = true)
    (lBInit : K.lookup fBInit = some ⟨ocBInit, odBInit, .func (PySem.W.fnOf "__init__" "Book.__init__" (defArgs sBInit) (defBody sBInit) (defScope sBInit) .none kVBInit dcBInit pmBInit anBInit cdBInit ctBInit), slBInit⟩) (cBInit : PySem.W.codeIn K cdBInit "Book.__init__" = true) (kBInit : PySem.W.keepIn K (.ref fBInit) = true)
    (lRead : K.lookup fRead = some ⟨ocRead, odRead, .func (PySem.W.fnOf "read" "Book.read" (defArgs sRead) (defBody sRead) (defScope sRead) .none kVRead dcRead pmRead anRead cdRead ctRead), slRead⟩) (cRead : PySem.W.codeIn K cdRead "Book.read" = true) (kRead : PySem.W.keepIn K (.ref fRead) = true)
    (aBStr : PySem.W.findIn K (.ref BK) "__str__" = some (some (.ref fBStr))) (iBStr : PySem.W.isFn K (.ref fBStr) = true)
    (lBStr : K.lookup fBStr = some ⟨ocBStr, odBStr, .func (PySem.W.fnOf "__str__" "Book.__str__" (defArgs sBStr) (defBody sBStr) (defScope sBStr) .none kVBStr dcBStr pmBStr anBStr cdBStr ctBStr), slBStr⟩) (cBStr : PySem.W.codeIn K cdBStr "Book.__str__" = true) (kBStr : PySem.W.keepIn K (.ref fBStr) = true)
    (aBEq : PySem.W.findIn K (.ref BK) "__eq__" = some (some (.ref fBEq))) (iBEq : PySem.W.isFn K (.ref fBEq) = true)
    (lBEq : K.lookup fBEq = some ⟨ocBEq, odBEq, .func (PySem.W.fnOf "__eq__" "Book.__eq__" (defArgs sBEq) (defBody sBEq) (defScope sBEq) .none kVBEq dcBEq pmBEq anBEq cdBEq ctBEq), slBEq⟩) (cBEq : PySem.W.codeIn K cdBEq "Book.__eq__" = true) (kBEq : PySem.W.keepIn K (.ref fBEq) = true)
    (aSource : PySem.W.nsIn K mainGlobals "_law_source" = some (some (.ref fSource)))
    (lSource : K.lookup fSource = some ⟨ocSource, odSource, .func (PySem.W.fnOf "_law_source" "_law_source" (defArgs sSource) (defBody sSource) (defScope sSource) .none kVSource dcSource pmSource anSource cdSource ctSource), slSource⟩) (cSource : PySem.W.codeIn K cdSource "_law_source" = true) (kSource : PySem.W.keepIn K (.ref fSource) = true)
    (aTake : PySem.W.nsIn K mainGlobals "_law_take" = some (some (.ref fTake)))
    (lTake : K.lookup fTake = some ⟨ocTake, odTake, .func (PySem.W.fnOf "_law_take" "_law_take" (defArgs sTake) (defBody sTake) (defScope sTake) .none kVTake dcTake pmTake anTake cdTake ctTake), slTake⟩) (cTake : PySem.W.codeIn K cdTake "_law_take" = true) (kTake : PySem.W.keepIn K (.ref fTake) = true)
    (aOf : PySem.W.nsIn K mainGlobals "_law_of" = some (some (.ref fOf)))
    (lOf : K.lookup fOf = some ⟨ocOf, odOf, .func (PySem.W.fnOf "_law_of" "_law_of" (defArgs sOf) (defBody sOf) (defScope sOf) .none kVOf dcOf pmOf anOf cdOf ctOf), slOf⟩) (cOf : PySem.W.codeIn K cdOf "_law_of" = true) (kOf : PySem.W.keepIn K (.ref fOf) = true)
    (aWords : PySem.W.nsIn K mainGlobals "_law_words" = some (some (.ref fWords)))
    (lWords : K.lookup fWords = some ⟨ocWords, odWords, .func (PySem.W.fnOf "_law_words" "_law_words" (defArgs sWords) (defBody sWords) (defScope sWords) .none kVWords dcWords pmWords anWords cdWords ctWords), slWords⟩) (cWords : PySem.W.codeIn K cdWords "_law_words" = true) (kWords : PySem.W.keepIn K (.ref fWords) = true)
    (aLToks : PySem.W.nsIn K mainGlobals "_law_tokens" = some (some (.ref fLToks)))
    (lLToks : K.lookup fLToks = some ⟨ocLToks, odLToks, .func (PySem.W.fnOf "_law_tokens" "_law_tokens" (defArgs sLToks) (defBody sLToks) (defScope sLToks) .none kVLToks dcLToks pmLToks anLToks cdLToks ctLToks), slLToks⟩) (cLToks : PySem.W.codeIn K cdLToks "_law_tokens" = true) (kLToks : PySem.W.keepIn K (.ref fLToks) = true)
    (aLoose : PySem.W.nsIn K mainGlobals "_law_loose" = some (some (.ref fLoose)))
    (lLoose : K.lookup fLoose = some ⟨ocLoose, odLoose, .func (PySem.W.fnOf "_law_loose" "_law_loose" (defArgs sLoose) (defBody sLoose) (defScope sLoose) .none kVLoose dcLoose pmLoose anLoose cdLoose ctLoose), slLoose⟩) (cLoose : PySem.W.codeIn K cdLoose "_law_loose" = true) (kLoose : PySem.W.keepIn K (.ref fLoose) = true)
    (aLWr : PySem.W.nsIn K mainGlobals "_law_written" = some (some (.ref fLWr)))
    (lLWr : K.lookup fLWr = some ⟨ocLWr, odLWr, .func (PySem.W.fnOf "_law_written" "_law_written" (defArgs sLWr) (defBody sLWr) (defScope sLWr) .none kVLWr dcLWr pmLWr anLWr cdLWr ctLWr), slLWr⟩) (cLWr : PySem.W.codeIn K cdLWr "_law_written" = true) (kLWr : PySem.W.keepIn K (.ref fLWr) = true)
    (aLaw : PySem.W.nsIn K mainGlobals "law" = some (some (.ref fLaw)))
    (lLaw : K.lookup fLaw = some ⟨ocLaw, odLaw, .func (PySem.W.fnOf "law" "law" (defArgs sLaw) (defBody sLaw) (defScope sLaw) .none kVLaw dcLaw pmLaw anLaw cdLaw ctLaw), slLaw⟩) (cLaw : PySem.W.codeIn K cdLaw "law" = true) (kLaw : PySem.W.keepIn K (.ref fLaw) = true)
    (aTab : PySem.W.nsIn K mainGlobals "_law_table" = some (some (.ref fTab)))
    (lTab : K.lookup fTab = some ⟨ocTab, odTab, .func (PySem.W.fnOf "_law_table" "_law_table" (defArgs sTab) (defBody sTab) (defScope sTab) .none kVTab dcTab pmTab anTab cdTab ctTab), slTab⟩) (cTab : PySem.W.codeIn K cdTab "_law_table" = true) (kTab : PySem.W.keepIn K (.ref fTab) = true)
    (aWants : PySem.W.nsIn K mainGlobals "_law_wants" = some (some (.ref fWants)))
    (lWants : K.lookup fWants = some ⟨ocWants, odWants, .func (PySem.W.fnOf "_law_wants" "_law_wants" (defArgs sWants) (defBody sWants) (defScope sWants) .none kVWants dcWants pmWants anWants cdWants ctWants), slWants⟩) (cWants : PySem.W.codeIn K cdWants "_law_wants" = true) (kWants : PySem.W.keepIn K (.ref fWants) = true)
    (aBefore : PySem.W.nsIn K mainGlobals "_law_before" = some (some (.ref fBefore)))
    (lBefore : K.lookup fBefore = some ⟨ocBefore, odBefore, .func (PySem.W.fnOf "_law_before" "_law_before" (defArgs sBefore) (defBody sBefore) (defScope sBefore) .none kVBefore dcBefore pmBefore anBefore cdBefore ctBefore), slBefore⟩) (cBefore : PySem.W.codeIn K cdBefore "_law_before" = true) (kBefore : PySem.W.keepIn K (.ref fBefore) = true)
    (aKept : PySem.W.nsIn K mainGlobals "_law_kept" = some (some (.ref fKept)))
    (lKept : K.lookup fKept = some ⟨ocKept, odKept, .func (PySem.W.fnOf "_law_kept" "_law_kept" (defArgs sKept) (defBody sKept) (defScope sKept) .none kVKept dcKept pmKept anKept cdKept ctKept), slKept⟩) (cKept : PySem.W.codeIn K cdKept "_law_kept" = true) (kKept : PySem.W.keepIn K (.ref fKept) = true)
    (aSigns : PySem.W.nsIn K mainGlobals "_law_signs" = some (some (.ref fSigns)))
    (lSigns : K.lookup fSigns = some ⟨ocSigns, odSigns, .func (PySem.W.fnOf "_law_signs" "_law_signs" (defArgs sSigns) (defBody sSigns) (defScope sSigns) .none kVSigns dcSigns pmSigns anSigns cdSigns ctSigns), slSigns⟩) (cSigns : PySem.W.codeIn K cdSigns "_law_signs" = true) (kSigns : PySem.W.keepIn K (.ref fSigns) = true)
    (aInside : PySem.W.nsIn K mainGlobals "_law_inside" = some (some (.ref fInside)))
    (lInside : K.lookup fInside = some ⟨ocInside, odInside, .func (PySem.W.fnOf "_law_inside" "_law_inside" (defArgs sInside) (defBody sInside) (defScope sInside) .none kVInside dcInside pmInside anInside cdInside ctInside), slInside⟩) (cInside : PySem.W.codeIn K cdInside "_law_inside" = true) (kInside : PySem.W.keepIn K (.ref fInside) = true)
    (aLonger : PySem.W.nsIn K mainGlobals "_law_longer" = some (some (.ref fLonger)))
    (lLonger : K.lookup fLonger = some ⟨ocLonger, odLonger, .func (PySem.W.fnOf "_law_longer" "_law_longer" (defArgs sLonger) (defBody sLonger) (defScope sLonger) .none kVLonger dcLonger pmLonger anLonger cdLonger ctLonger), slLonger⟩) (cLonger : PySem.W.codeIn K cdLonger "_law_longer" = true) (kLonger : PySem.W.keepIn K (.ref fLonger) = true)
    (aWrong : PySem.W.nsIn K mainGlobals "_law_wrong" = some (some (.ref fWrong)))
    (lWrong : K.lookup fWrong = some ⟨ocWrong, odWrong, .func (PySem.W.fnOf "_law_wrong" "_law_wrong" (defArgs sWrong) (defBody sWrong) (defScope sWrong) .none kVWrong dcWrong pmWrong anWrong cdWrong ctWrong), slWrong⟩) (cWrong : PySem.W.codeIn K cdWrong "_law_wrong" = true) (kWrong : PySem.W.keepIn K (.ref fWrong) = true)
    (aTold : PySem.W.nsIn K mainGlobals "_law_told" = some (some (.ref fTold)))
    (lTold : K.lookup fTold = some ⟨ocTold, odTold, .func (PySem.W.fnOf "_law_told" "_law_told" (defArgs sTold) (defBody sTold) (defScope sTold) .none kVTold dcTold pmTold anTold cdTold ctTold), slTold⟩) (cTold : PySem.W.codeIn K cdTold "_law_told" = true) (kTold : PySem.W.keepIn K (.ref fTold) = true)
    (rpg : PySem.W.plainGet K R Str.empty = true)
    (rhd : PySem.W.hasDictIn K R = true)
    (rpo : PySem.W.plainOver K R = true)
    (rsa : PySem.W.findIn K (.ref R) "__setattr__" = some (some (.builtin "object.__setattr__")))
    (rmk : PySem.W.makesIn K R = true)
    (rkc : PySem.W.keepIn K (.ref R) = true)
    (rn0 : PySem.W.findIn K (.ref R) "tokens" = some none)
    (rn1 : PySem.W.findIn K (.ref R) "size" = some none)
    (rn2 : PySem.W.findIn K (.ref R) "next_at" = some none)
    (rn3 : PySem.W.findIn K (.ref R) "marks" = some none)
    (rn4 : PySem.W.findIn K (.ref R) "many_tables" = some none)
    (rn5 : PySem.W.findIn K (.ref R) "many_bags" = some none)
    (bkpg : PySem.W.plainGet K BK Str.empty = true)
    (bkhd : PySem.W.hasDictIn K BK = true)
    (bkpo : PySem.W.plainOver K BK = true)
    (bksa : PySem.W.findIn K (.ref BK) "__setattr__" = some (some (.builtin "object.__setattr__")))
    (bkmk : PySem.W.makesIn K BK = true)
    (bkkc : PySem.W.keepIn K (.ref BK) = true)
    (bkn0 : PySem.W.findIn K (.ref BK) "marks" = some none)
    (xB : K.lookup B = some (excClassObj nmB qB B NB bsB [.ref NE, .type "ValueError", .type "Exception", .type "BaseException", .type "object"] true snB subB abB colB ddB b_0 b_1 b_2 b_3 b_5 "ValueError.__new__"))
    (bsa : PySem.W.findIn K (.ref B) "__setattr__" = some (some (.builtin "object.__setattr__")))
    (bga : PySem.W.findIn K (.ref B) "__getattribute__" = some (some (.builtin "BaseException.__getattribute__")))
    (bgg : PySem.W.findIn K (.ref B) "__getattr__" = some none)
    (bno : PySem.W.findIn K (.ref B) "at" = some none)
    (btI : PySem.W.typeIn K (.ref fBadB) = some (.type "function"))
    (bk : PySem.W.keepIn K (.ref B) = true)
    (bex : PySem.W.subIn K (.ref B) (.type "BaseException") = some true)
    (bty : PySem.W.typeIn K (.ref B) = some (.type "type"))
    (bhd : PySem.W.hasDictIn K B = true)
    (bic : PySem.W.isClsIn K B = true)
    (bsS : PySem.W.subIn K (.ref B) (.ref B) = some true)
    (crd : PySem.W.readsIn K BK (.type "type") = true)
    (cga : PySem.W.specialIn K (.ref BK) "__getattribute__" = some (some (.builtin "type.__getattribute__")))
    (cvM : PySem.W.findCls K (.ref BK) (.type "type") "MODES" = some (.val (.ref tMOD)))
    (cv0 : PySem.W.findCls K (.ref BK) (.type "type") "MOST_LEVELS" = some (.val (.int 4 kc0)))
    (cv1 : PySem.W.findCls K (.ref BK) (.type "type") "MOST_KEYS" = some (.val (.int 3 kc1)))
    (cv2 : PySem.W.findCls K (.ref BK) (.type "type") "MOST_TABLES" = some (.val (.int 6 kc2)))
    (cv3 : PySem.W.findCls K (.ref BK) (.type "type") "MOST_BAGS" = some (.val (.int 6 kc3)))
    (cmA : PySem.W.findCls K (.ref BK) (.type "type") "read" = some (.get (.builtin "classmethod.__get__") (.ref pRead) .none (.ref BK)))
    (cmR : PySem.W.recIn K pRead "classmethod" = some (.ref fRead :: restR))
    (cmF : PySem.W.fnIn K fRead = true)
    (tyA : PySem.W.findIn K (.ref BK) "__class__" = some (some (.builtin "object.__class__")))
    (tyN : PySem.W.specialIn K (.builtin "object.__class__") "__get__" = some (some (.builtin "getset_descriptor.__get__")))
    (tyK : PySem.W.takesIn K (.builtin "object.__class__") = some true)
    (tyO : PySem.W.mroIn K BK (.type "object") = some true)
    (eqN : PySem.W.findIn K (.ref BK) "__ne__" = some (some (.builtin "object.__ne__")))
    (zVE : PySem.W.nsIn K mainGlobals "ValueError" = some none)
    (bca : PySem.W.findIn K (.ref B) "__class__" = some (some (.builtin "object.__class__")))
    (bcn : PySem.W.specialIn K (.builtin "object.__class__") "__get__" = some (some (.builtin "getset_descriptor.__get__")))
    (bct : PySem.W.takesIn K (.builtin "object.__class__") = some true)
    (bcm : PySem.W.mroIn K B (.type "object") = some true)
    (sVE : PySem.W.subIn K (.ref B) (.type "ValueError") = some true)
    (sNE : PySem.W.subIn K (.ref B) (.ref NE) = some true)
    (cNE : PySem.W.isClsIn K NE = true)
    (yNE : PySem.W.typeIn K (.ref NE) = some (.type "type"))
    (sBM : PySem.W.subIn K (.ref B) (.ref BM) = some false)
    (cBM : PySem.W.isClsIn K BM = true)
    (yBM : PySem.W.typeIn K (.ref BM) = some (.type "type"))
    (sNP : PySem.W.subIn K (.ref B) (.ref NP) = some false)
    (cNP : PySem.W.isClsIn K NP = true)
    (yNP : PySem.W.typeIn K (.ref NP) = some (.type "type"))
    (gLE : PySem.W.nsIn K mainGlobals "LETTERS" = some (some (.str "abcdefghijklmnopqrstuvwxyz" tLE)))
    (gRE : PySem.W.nsIn K mainGlobals "RESERVED" = some (some (.ref tRES)))
    (gKI : PySem.W.nsIn K mainGlobals "BAG_KINDS" = some (some (.ref tKIN)))
    (lRES : K.lookup tRES = some ⟨.type "tuple", odRES, .seq #[.str "add" kRES0, .str "back" kRES1, .str "clear" kRES2, .str "copy" kRES3, .str "def" kRES4, .str "either" kRES5, .str "end" kRES6, .str "for" kRES7, .str "in" kRES8, .str "kept" kRES9, .str "like" kRES10, .str "live" kRES11, .str "new" kRES12, .str "or" kRES13, .str "repeat" kRES14, .str "root" kRES15, .str "show" kRES16, .str "sync" kRES17, .str "use" kRES18] nRES, slRES⟩)
    (lKIN : K.lookup tKIN = some ⟨.type "tuple", odKIN, .seq #[.str "*" kKIN0, .str "!" kKIN1] nKIN, slKIN⟩)
    (lMOD : K.lookup tMOD = some ⟨.type "tuple", odMOD, .seq #[.str "live" kMOD0, .str "copy" kMOD1, .str "kept" kMOD2] nMOD, slMOD⟩)
    (z_isinstance : PySem.W.nsIn K mainGlobals "isinstance" = some none)
    (z_int : PySem.W.nsIn K mainGlobals "int" = some none)
    (z_bool : PySem.W.nsIn K mainGlobals "bool" = some none)
    (z_list : PySem.W.nsIn K mainGlobals "list" = some none)
    (z_sorted : PySem.W.nsIn K mainGlobals "sorted" = some none)
    (z_len : PySem.W.nsIn K mainGlobals "len" = some none)
    (z_set : PySem.W.nsIn K mainGlobals "set" = some none)
    (z_range : PySem.W.nsIn K mainGlobals "range" = some none)
    (z_enumerate : PySem.W.nsIn K mainGlobals "enumerate" = some none)
    (z_max : PySem.W.nsIn K mainGlobals "max" = some none)
    (z_min : PySem.W.nsIn K mainGlobals "min" = some none)
    (z_abs : PySem.W.nsIn K mainGlobals "abs" = some none)
    (z_any : PySem.W.nsIn K mainGlobals "any" = some none)
    (z_all : PySem.W.nsIn K mainGlobals "all" = some none)
    (z_tuple : PySem.W.nsIn K mainGlobals "tuple" = some none)
    (z_str : PySem.W.nsIn K mainGlobals "str" = some none)
    (z_dict : PySem.W.nsIn K mainGlobals "dict" = some none)
    (z_repr : PySem.W.nsIn K mainGlobals "repr" = some none)
    : ∃ fd : FuncData, (∀ (s : Shared) (v : Value), BindsTo s fd ⟨[v], []⟩ [("_law_script", v)]) ∧ ∀ base : Heap, K.In base → base.Ns mainGlobals mg → FnG l.prog w K mg base CX0 17 fa fd ["_law_script"] (spLaw K) := by
  have e := hfa.symm.trans (PySem.W.mg_of X G aLaw)
  cases e
  have T : Bn mg := ⟨PySem.W.mg_none_of X G z_isinstance, PySem.W.mg_none_of X G z_int, PySem.W.mg_none_of X G z_bool, PySem.W.mg_none_of X G z_list, PySem.W.mg_none_of X G z_sorted, PySem.W.mg_none_of X G z_len, PySem.W.mg_none_of X G z_set, PySem.W.mg_none_of X G z_range, PySem.W.mg_none_of X G z_enumerate, PySem.W.mg_none_of X G z_max, PySem.W.mg_none_of X G z_min, PySem.W.mg_none_of X G z_abs, PySem.W.mg_none_of X G z_any, PySem.W.mg_none_of X G z_all, PySem.W.mg_none_of X G z_tuple, PySem.W.mg_none_of X G z_str, PySem.W.mg_none_of X G z_dict, PySem.W.mg_none_of X G z_repr⟩
  have N : BkN K mg := ⟨⟨tLE, PySem.W.mg_of X G gLE⟩, ⟨tRES, PySem.W.mg_of X G gRE, fun H => .inr ⟨_, _, _, lRES, rfl, rfl, (show 19 ≤ sizeLine by decide), .cons ⟨_, rfl⟩ (.cons ⟨_, rfl⟩ (.cons ⟨_, rfl⟩ (.cons ⟨_, rfl⟩ (.cons ⟨_, rfl⟩ (.cons ⟨_, rfl⟩ (.cons ⟨_, rfl⟩ (.cons ⟨_, rfl⟩ (.cons ⟨_, rfl⟩ (.cons ⟨_, rfl⟩ (.cons ⟨_, rfl⟩ (.cons ⟨_, rfl⟩ (.cons ⟨_, rfl⟩ (.cons ⟨_, rfl⟩ (.cons ⟨_, rfl⟩ (.cons ⟨_, rfl⟩ (.cons ⟨_, rfl⟩ (.cons ⟨_, rfl⟩ (.cons ⟨_, rfl⟩ (.nil)))))))))))))))))))⟩⟩, ⟨tKIN, PySem.W.mg_of X G gKI, fun H => .inr ⟨_, _, _, lKIN, rfl, rfl, (show 2 ≤ sizeLine by decide), .cons ⟨_, rfl⟩ (.cons ⟨_, rfl⟩ (.nil))⟩⟩⟩
  have Bc : BkC K mg BK (.type "type") := ⟨PySem.W.mg_of X G aBK, ⟨crd, cga⟩, ⟨tMOD, ⟨cvM, rfl⟩, fun H => .inr ⟨_, _, _, lMOD, rfl, rfl, (show 3 ≤ sizeLine by decide), .cons ⟨_, rfl⟩ (.cons ⟨_, rfl⟩ (.cons ⟨_, rfl⟩ (.nil)))⟩⟩, ⟨_, cv0, ⟨_, rfl⟩⟩, ⟨_, cv1, ⟨_, rfl⟩⟩, ⟨_, cv2, ⟨_, rfl⟩⟩, ⟨_, cv3, ⟨_, rfl⟩⟩⟩
  have Rc : RdC K R := ⟨⟨rpg, rhd, rpo, rsa⟩, rn0, rn1, rn2, rn3, rn4, rn5⟩
  have Bt : BkT K BK := ⟨⟨bkpg, bkhd, bkpo, bksa⟩, bkn0⟩
  have Ox : OexC K B := ⟨⟨nmB, qB, NB, bsB, _, snB, subB, abB, colB, ddB, b_0, b_1, b_2, b_3, b_5, xB, (show PySem.HandSPX.refsVE [.type "ValueError", .type "Exception", .type "BaseException", .type "object"] = true by decide +kernel)⟩, bsa, bex, bty, bk⟩
  have FBadB := fun_mk (st := sBadB) lBadB cBadB kBadB
  have FIsKey := fun_mk (st := sIsKey) lIsKey cIsKey kIsKey
  have FToks := fun_mk (st := sToks) lToks cToks kToks
  have FKu := fun_mk (st := sKu) lKu cKu kKu
  have FWr := fun_mk (st := sWr) lWr cWr kWr
  have FRInit := fun_mk (st := sRInit) lRInit cRInit kRInit
  have FWord := fun_mk (st := sWord) lWord cWord kWord
  have FRefuse := fun_mk (st := sRefuse) lRefuse cRefuse kRefuse
  have FTakeR := fun_mk (st := sTakeR) lTakeR cTakeR kTakeR
  have FWhole := fun_mk (st := sWhole) lWhole cWhole kWhole
  have FTable := fun_mk (st := sTable) lTable cTable kTable
  have FEntry := fun_mk (st := sEntry) lEntry cEntry kEntry
  have FBInit := fun_mk (st := sBInit) lBInit cBInit kBInit
  have FRead := fun_mk (st := sRead) lRead cRead kRead
  have FBStr := fun_mk (st := sBStr) lBStr cBStr kBStr
  have FBEq := fun_mk (st := sBEq) lBEq cBEq kBEq
  have FSource := fun_mk (st := sSource) lSource cSource kSource
  have FTake := fun_mk (st := sTake) lTake cTake kTake
  have FOf := fun_mk (st := sOf) lOf cOf kOf
  have FWords := fun_mk (st := sWords) lWords cWords kWords
  have FLToks := fun_mk (st := sLToks) lLToks cLToks kLToks
  have FLoose := fun_mk (st := sLoose) lLoose cLoose kLoose
  have FLWr := fun_mk (st := sLWr) lLWr cLWr kLWr
  have FLaw := fun_mk (st := sLaw) lLaw cLaw kLaw
  have FTab := fun_mk (st := sTab) lTab cTab kTab
  have FWants := fun_mk (st := sWants) lWants cWants kWants
  have FBefore := fun_mk (st := sBefore) lBefore cBefore kBefore
  have FKept := fun_mk (st := sKept) lKept cKept kKept
  have FSigns := fun_mk (st := sSigns) lSigns cSigns kSigns
  have FInside := fun_mk (st := sInside) lInside cInside kInside
  have FLonger := fun_mk (st := sLonger) lLonger cLonger kLonger
  have FWrong := fun_mk (st := sWrong) lWrong cWrong kWrong
  have FTold := fun_mk (st := sTold) lTold cTold kTold
  have bBadB := FBadB.binds (ps := ["self", "at"]) fun _ _ _ _ _ _ us hl => match us, hl with | [_, _], _ => rfl
  have bIsKey := FIsKey.binds (ps := ["word"]) fun _ _ _ _ _ _ us hl => match us, hl with | [_], _ => rfl
  have bToks := FToks.binds (ps := ["text"]) fun _ _ _ _ _ _ us hl => match us, hl with | [_], _ => rfl
  have bKu := FKu.binds (ps := ["marks", "place"]) fun _ _ _ _ _ _ us hl => match us, hl with | [_, _], _ => rfl
  have bWr := FWr.binds (ps := ["marks", "place", "has_modes"]) fun _ _ _ _ _ _ us hl => match us, hl with | [_, _, _], _ => rfl
  have bRInit := FRInit.binds (ps := ["self", "text"]) fun _ _ _ _ _ _ us hl => match us, hl with | [_, _], _ => rfl
  have bWord := FWord.binds (ps := ["self"]) fun _ _ _ _ _ _ us hl => match us, hl with | [_], _ => rfl
  have bRefuse := FRefuse.binds (ps := ["self"]) fun _ _ _ _ _ _ us hl => match us, hl with | [_], _ => rfl
  have bTakeR := FTakeR.binds (ps := ["self", "sign"]) fun _ _ _ _ _ _ us hl => match us, hl with | [_, _], _ => rfl
  have bWhole := FWhole.binds (ps := ["self"]) fun _ _ _ _ _ _ us hl => match us, hl with | [_], _ => rfl
  have bTable := FTable.binds (ps := ["self", "place"]) fun _ _ _ _ _ _ us hl => match us, hl with | [_, _], _ => rfl
  have bEntry := FEntry.binds (ps := ["self", "place"]) fun _ _ _ _ _ _ us hl => match us, hl with | [_, _], _ => rfl
  have bBInit := FBInit.binds (ps := ["self", "marks"]) fun _ _ _ _ _ _ us hl => match us, hl with | [_, _], _ => rfl
  have bRead := FRead.binds (ps := ["cls", "text"]) fun _ _ _ _ _ _ us hl => match us, hl with | [_, _], _ => rfl
  have bBStr := FBStr.binds (ps := ["self"]) fun _ _ _ _ _ _ us hl => match us, hl with | [_], _ => rfl
  have bBEq := FBEq.binds (ps := ["self", "other"]) fun _ _ _ _ _ _ us hl => match us, hl with | [_, _], _ => rfl
  have bSource := FSource.binds (ps := ["_law_script", "_law_at"]) fun _ _ _ _ _ _ us hl => match us, hl with | [_, _], _ => rfl
  have bTake := FTake.binds (ps := ["_law_source_here", "_law_many"]) fun _ _ _ _ _ _ us hl => match us, hl with | [_, _], _ => rfl
  have bOf := FOf.binds (ps := ["_law_source_here", "_law_some"]) fun _ _ _ _ _ _ us hl => match us, hl with | [_, _], _ => rfl
  have bWords := FWords.binds (ps := ["_law_source_here", "_law_many"]) fun _ _ _ _ _ _ us hl => match us, hl with | [_, _], _ => rfl
  have bLToks := FLToks.binds (ps := ["_law_item"]) fun _ _ _ _ _ _ us hl => match us, hl with | [_], _ => rfl
  have bLoose := FLoose.binds (ps := ["_law_source_here", "_law_tokens_here"]) fun _ _ _ _ _ _ us hl => match us, hl with | [_, _], _ => rfl
  have bLWr := FLWr.binds (ps := ["_law_item"]) fun _ _ _ _ _ _ us hl => match us, hl with | [_], _ => rfl
  have bTab := FTab.binds (ps := ["_law_source_here", "_law_words_here", "_law_left", "_law_level"]) fun _ _ _ _ _ _ us hl => match us, hl with | [_, _, _, _], _ => rfl
  have bWants := FWants.binds (ps := ["_law_tokens_here"]) fun _ _ _ _ _ _ us hl => match us, hl with | [_], _ => rfl
  have bBefore := FBefore.binds (ps := ["_law_tokens_here", "_law_k"]) fun _ _ _ _ _ _ us hl => match us, hl with | [_, _], _ => rfl
  have bKept := FKept.binds (ps := []) fun _ _ _ _ _ _ us hl => match us, hl with | [], _ => rfl
  have bSigns := FSigns.binds (ps := []) fun _ _ _ _ _ _ us hl => match us, hl with | [], _ => rfl
  have bInside := FInside.binds (ps := ["_law_source_here", "_law_tokens_here", "_law_text", "_law_starts"]) fun _ _ _ _ _ _ us hl => match us, hl with | [_, _, _, _], _ => rfl
  have bLonger := FLonger.binds (ps := ["_law_source_here", "_law_tokens_here", "_law_text", "_law_starts"]) fun _ _ _ _ _ _ us hl => match us, hl with | [_, _, _, _], _ => rfl
  have bWrong := FWrong.binds (ps := ["_law_source_here", "_law_tokens_here", "_law_k"]) fun _ _ _ _ _ _ us hl => match us, hl with | [_, _, _], _ => rfl
  have bTold := FTold.binds (ps := ["_law_text"]) fun _ _ _ _ _ _ us hl => match us, hl with | [_], _ => rfl
  have By : BkTy K BK := ⟨Bt.cl, tyA, tyN, tyK, tyO, by unfold PySem.W.kitOne; rw [if_pos (by simp)]⟩
  have X1 : BadT K mg B NE BM NP := ⟨PySem.W.mg_of X G aB, PySem.W.mg_of X G aNE, PySem.W.mg_of X G aBM, PySem.W.mg_of X G aNP, PySem.W.mg_none_of X G zVE, ⟨bga, bgg, bex, bhd⟩, ⟨bic, bga, bgg, bex, bca, bcn, bct, bcm⟩, bno, exm_self bex bic bty bsS, kit_r bsS sNE cNE yNE, kit_b sVE (by decide +kernel), kit_r bsS sBM cBM yBM, kit_r bsS sNP cNP yNP⟩
  refine ⟨_, fun s v => .of_eq rfl, fun base _ _ => ok_law (B := B) (BK := BK) (mc := .type "type") FLaw T  ?_⟩
  have cToks : Cl l.prog w K mg base 1 "tokens_of" spToks [] := ⟨_, _, _, _, ok_toks FToks T N.letters, PySem.W.mg_of X G aToks, kToks, bToks, .nil⟩
  have cIsKey : Cl l.prog w K mg base 1 "is_key" spIsKey [] := ⟨_, _, _, _, ok_isKey FIsKey T N, PySem.W.mg_of X G aIsKey, kIsKey, bIsKey, .nil⟩
  have er : Er l.prog w K mg base 1 "BadBook" B "at" := ⟨⟨_, _, _, ok_badB FBadB Ox bno, aBadB, btI, bBadB⟩, Ox, PySem.W.mg_of X G aB⟩
  have kR : Nw l.prog w K mg base 2 "Reader" R (spRInit R) [] := ⟨_, _, _, _, ⟨rmk, aRInit, iRInit, rkc⟩, ok_rinit FRInit T Rc cToks, PySem.W.mg_of X G aR, bRInit, .nil⟩
  have mWord : Mt l.prog w K mg base 1 R "word" (spWord R) [] := ⟨_, _, _, _, Rc.cl, ⟨aWord, iWord, kWord⟩, ok_word FWord T Rc, bWord, .nil⟩
  have mRefuse : MtX l.prog w K mg base 3 R "refuse" (spRefuse R B) [] := ⟨_, _, _, _, Rc.cl, ⟨aRefuse, iRefuse, kRefuse⟩, ok_refuse FRefuse T Rc er, bRefuse, .nil⟩
  have mTake : MtX l.prog w K mg base 4 R "take" (spTakeR R B) [] := ⟨_, _, _, _, Rc.cl, ⟨aTakeR, iTakeR, kTakeR⟩, ok_takeR FTakeR Rc mWord mRefuse, bTakeR, .nil⟩
  have mT0 : MtX l.prog w K mg base 5 R "read_table" (spRT R B 0) [] := ⟨_, _, _, _, Rc.cl, ⟨aTable, iTable, kTable⟩, ok_table0 FTable T Bc Rc mWord mRefuse, bTable, .nil⟩
  have mE0 : MtX l.prog w K mg base 6 R "read_entry" (spRE R B 0) [] := ⟨_, _, _, _, Rc.cl, ⟨aEntry, iEntry, kEntry⟩, ok_entry (k := 5) FEntry N Bc Rc cIsKey mWord mRefuse mTake (by decide) mT0, bEntry, .nil⟩
  have mT1 : MtX l.prog w K mg base 7 R "read_table" (spRT R B 1) [] := ⟨_, _, _, _, Rc.cl, ⟨aTable, iTable, kTable⟩, ok_tableS (k := 6) FTable T Bc Rc mWord mRefuse mTake (by decide) mE0, bTable, .nil⟩
  have mE1 : MtX l.prog w K mg base 8 R "read_entry" (spRE R B 1) [] := ⟨_, _, _, _, Rc.cl, ⟨aEntry, iEntry, kEntry⟩, ok_entry (k := 7) FEntry N Bc Rc cIsKey mWord mRefuse mTake (by decide) mT1, bEntry, .nil⟩
  have mT2 : MtX l.prog w K mg base 9 R "read_table" (spRT R B 2) [] := ⟨_, _, _, _, Rc.cl, ⟨aTable, iTable, kTable⟩, ok_tableS (k := 8) FTable T Bc Rc mWord mRefuse mTake (by decide) mE1, bTable, .nil⟩
  have mE2 : MtX l.prog w K mg base 10 R "read_entry" (spRE R B 2) [] := ⟨_, _, _, _, Rc.cl, ⟨aEntry, iEntry, kEntry⟩, ok_entry (k := 9) FEntry N Bc Rc cIsKey mWord mRefuse mTake (by decide) mT2, bEntry, .nil⟩
  have mT3 : MtX l.prog w K mg base 11 R "read_table" (spRT R B 3) [] := ⟨_, _, _, _, Rc.cl, ⟨aTable, iTable, kTable⟩, ok_tableS (k := 10) FTable T Bc Rc mWord mRefuse mTake (by decide) mE2, bTable, .nil⟩
  have mE3 : MtX l.prog w K mg base 12 R "read_entry" (spRE R B 3) [] := ⟨_, _, _, _, Rc.cl, ⟨aEntry, iEntry, kEntry⟩, ok_entry (k := 11) FEntry N Bc Rc cIsKey mWord mRefuse mTake (by decide) mT3, bEntry, .nil⟩
  have mT4 : MtX l.prog w K mg base 13 R "read_table" (spRT R B 4) [] := ⟨_, _, _, _, Rc.cl, ⟨aTable, iTable, kTable⟩, ok_tableS (k := 12) FTable T Bc Rc mWord mRefuse mTake (by decide) mE3, bTable, .nil⟩
  have mRW : MtX l.prog w K mg base 14 R "read_whole" (spRW R B) [] := ⟨_, _, _, _, Rc.cl, ⟨aWhole, iWhole, kWhole⟩, ok_whole (k := 13) FWhole T Rc mRefuse (by decide) mT4, bWhole, .nil⟩
  have kB : NwV l.prog w K mg base 1 BK (spBInit BK) [] := ⟨_, _, _, _, ⟨bkmk, aBInit, iBInit, bkkc⟩, ok_binit FBInit T Bt, bBInit, .nil⟩
  have cRead : CmX l.prog w K mg base 15 BK (.type "type") "read" (spRead K BK B) := ⟨_, _, _, _, Bc.rd, ⟨cmA, ⟨_, cmR⟩, cmF⟩, ok_read FRead T Rc er kR mRW kB, bRead⟩
  have cKu : Cl l.prog w K mg base 1 "keys_under" (spKu K) [] := ⟨_, _, _, _, ok_ku FKu T, PySem.W.mg_of X G aKu, kKu, bKu, .nil⟩
  have cW0 : Cl l.prog w K mg base 1 "written" (spWr K 0) [] := ⟨_, _, _, _, ok_wr0 FWr N, PySem.W.mg_of X G aWr, kWr, bWr, .nil⟩
  have cW1 : Cl l.prog w K mg base 2 "written" (spWr K 1) [] := ⟨_, _, _, _, ok_wrS (j := 1) FWr N cKu (by decide) cW0, PySem.W.mg_of X G aWr, kWr, bWr, .nil⟩
  have cW2 : Cl l.prog w K mg base 3 "written" (spWr K 2) [] := ⟨_, _, _, _, ok_wrS (j := 2) FWr N cKu (by decide) cW1, PySem.W.mg_of X G aWr, kWr, bWr, .nil⟩
  have cW3 : Cl l.prog w K mg base 4 "written" (spWr K 3) [] := ⟨_, _, _, _, ok_wrS (j := 3) FWr N cKu (by decide) cW2, PySem.W.mg_of X G aWr, kWr, bWr, .nil⟩
  have cW4 : Cl l.prog w K mg base 5 "written" (spWr K 4) [] := ⟨_, _, _, _, ok_wrS (j := 4) FWr N cKu (by decide) cW3, PySem.W.mg_of X G aWr, kWr, bWr, .nil⟩
  have cW5 : Cl l.prog w K mg base 6 "written" (spWr K 5) [] := ⟨_, _, _, _, ok_wrS (j := 5) FWr N cKu (by decide) cW4, PySem.W.mg_of X G aWr, kWr, bWr, .nil⟩
  have cW6 : Cl l.prog w K mg base 7 "written" (spWr K 6) [] := ⟨_, _, _, _, ok_wrS (j := 6) FWr N cKu (by decide) cW5, PySem.W.mg_of X G aWr, kWr, bWr, .nil⟩
  have cTake : Cl l.prog w K mg base 1 "_law_take" spTake [] := ⟨_, _, _, _, ok_take FTake T, PySem.W.mg_of X G aTake, kTake, bTake, .nil⟩
  have cOf : Cl l.prog w K mg base 2 "_law_of" (spOf K) [] := ⟨_, _, _, _, ok_of FOf T cTake, PySem.W.mg_of X G aOf, kOf, bOf, .nil⟩
  have cOfS : Cl l.prog w K mg base 2 "_law_of" spOfS [] := ⟨_, _, _, _, ok_ofS FOf T cTake, PySem.W.mg_of X G aOf, kOf, bOf, .nil⟩
  have cG1 : Cl l.prog w K mg base 3 "_law_table" (spTab K 1) [] := ⟨_, _, _, _, ok_tab (k := 2) FTab T cTake cOf (by decide) (fun _ _ _ _ _ _ _ => br_zero), PySem.W.mg_of X G aTab, kTab, bTab, .nil⟩
  have cG2 : Cl l.prog w K mg base 4 "_law_table" (spTab K 2) [] := ⟨_, _, _, _, ok_tab (k := 3) FTab T cTake cOf (by decide) (fun _ _ _ _ _ _ h => br_succ cG1 h), PySem.W.mg_of X G aTab, kTab, bTab, .nil⟩
  have cG3 : Cl l.prog w K mg base 5 "_law_table" (spTab K 3) [] := ⟨_, _, _, _, ok_tab (k := 4) FTab T cTake cOf (by decide) (fun _ _ _ _ _ _ h => br_succ cG2 h), PySem.W.mg_of X G aTab, kTab, bTab, .nil⟩
  have cG4 : Cl l.prog w K mg base 6 "_law_table" (spTab K 4) [] := ⟨_, _, _, _, ok_tab (k := 5) FTab T cTake cOf (by decide) (fun _ _ _ _ _ _ h => br_succ cG3 h), PySem.W.mg_of X G aTab, kTab, bTab, .nil⟩
  have cLToks0 : Cl l.prog w K mg base 1 "_law_tokens" (spToksT K 0) [] := ⟨_, _, _, _, ok_toks0 FLToks T, PySem.W.mg_of X G aLToks, kLToks, bLToks, .nil⟩
  have cLToks1 : Cl l.prog w K mg base 2 "_law_tokens" (spToksT K 1) [] := ⟨_, _, _, _, ok_toksS (j := 1) FLToks T (by decide) cLToks0, PySem.W.mg_of X G aLToks, kLToks, bLToks, .nil⟩
  have cLToks2 : Cl l.prog w K mg base 3 "_law_tokens" (spToksT K 2) [] := ⟨_, _, _, _, ok_toksS (j := 2) FLToks T (by decide) cLToks1, PySem.W.mg_of X G aLToks, kLToks, bLToks, .nil⟩
  have cLToks3 : Cl l.prog w K mg base 4 "_law_tokens" (spToksT K 3) [] := ⟨_, _, _, _, ok_toksS (j := 3) FLToks T (by decide) cLToks2, PySem.W.mg_of X G aLToks, kLToks, bLToks, .nil⟩
  have cLToks4 : Cl l.prog w K mg base 5 "_law_tokens" (spToksT K 4) [] := ⟨_, _, _, _, ok_toksS (j := 4) FLToks T (by decide) cLToks3, PySem.W.mg_of X G aLToks, kLToks, bLToks, .nil⟩
  have cLWr0 : Cl l.prog w K mg base 1 "_law_written" (spShT K true 0) [] := ⟨_, _, _, _, ok_written0 FLWr T, PySem.W.mg_of X G aLWr, kLWr, bLWr, .nil⟩
  have cLWr1 : Cl l.prog w K mg base 2 "_law_written" (spShT K true 1) [] := ⟨_, _, _, _, ok_writtenS (j := 1) FLWr T (by decide) cLWr0, PySem.W.mg_of X G aLWr, kLWr, bLWr, .nil⟩
  have cLWr2 : Cl l.prog w K mg base 3 "_law_written" (spShT K true 2) [] := ⟨_, _, _, _, ok_writtenS (j := 2) FLWr T (by decide) cLWr1, PySem.W.mg_of X G aLWr, kLWr, bLWr, .nil⟩
  have cLWr3 : Cl l.prog w K mg base 4 "_law_written" (spShT K true 3) [] := ⟨_, _, _, _, ok_writtenS (j := 3) FLWr T (by decide) cLWr2, PySem.W.mg_of X G aLWr, kLWr, bLWr, .nil⟩
  have cLWr4 : Cl l.prog w K mg base 5 "_law_written" (spShT K true 4) [] := ⟨_, _, _, _, ok_writtenS (j := 4) FLWr T (by decide) cLWr3, PySem.W.mg_of X G aLWr, kLWr, bLWr, .nil⟩
  have cWants : Cl l.prog w K mg base 1 "_law_wants" (spWants K) [] := ⟨_, _, _, _, ok_wants FWants T, PySem.W.mg_of X G aWants, kWants, bWants, .nil⟩
  have cBefore : Cl l.prog w K mg base 1 "_law_before" (spBefore K) [] := ⟨_, _, _, _, ok_before FBefore T, PySem.W.mg_of X G aBefore, kBefore, bBefore, .nil⟩
  have cKept : Cl l.prog w K mg base 1 "_law_kept" spKept [] := ⟨_, _, _, _, ok_kept FKept, PySem.W.mg_of X G aKept, kKept, bKept, .nil⟩
  have cSigns : Cl l.prog w K mg base 1 "_law_signs" spSigns [] := ⟨_, _, _, _, ok_signs FSigns, PySem.W.mg_of X G aSigns, kSigns, bSigns, .nil⟩
  exact {
    gl := PySem.W.mg_of X G aBK
    source := ⟨_, _, _, _, ok_source FSource T, PySem.W.mg_of X G aSource, kSource, bSource, .nil⟩
    take := cTake
    of_ := cOf
    words := ⟨_, _, _, _, ok_words FWords T cTake, PySem.W.mg_of X G aWords, kWords, bWords, .nil⟩
    tab := cG4
    toks := cLToks4
    loose := ⟨_, _, _, _, ok_loose FLoose T cTake cOf, PySem.W.mg_of X G aLoose, kLoose, bLoose, .nil⟩
    wr := cLWr4
    inside := ⟨_, _, _, _, ok_inside FInside T cTake cOf cOfS cWants cBefore cKept cSigns, PySem.W.mg_of X G aInside, kInside, bInside, .nil⟩
    longer := ⟨_, _, _, _, ok_longer FLonger T cOf cOfS, PySem.W.mg_of X G aLonger, kLonger, bLonger, .nil⟩
    wrong := ⟨_, _, _, _, ok_wrong FWrong T cOf cOfS cWants cBefore cKept cSigns, PySem.W.mg_of X G aWrong, kWrong, bWrong, .nil⟩
    told := ⟨_, _, _, _, ok_told FTold T X1 (PySem.W.mg_of X G aBK) cRead, PySem.W.mg_of X G aTold, kTold, bTold, .nil⟩
    read := cRead
    str := ⟨_, _, _, ok_bstr FBStr T Bt cW6, aBStr, iBStr, bBStr⟩
    eq := ⟨⟨_, _, _, ok_beq FBEq T Bt By (PySem.W.mg_of X G aBK), aBEq, iBEq, bBEq⟩, eqN, tyO⟩
    ty := By }
theorem walk {l : PySem.W.OpenLaw} {q : Program} {loose : List Str} {XP : (Str → Option Value) → Heap → Prop} {YP : World → Heap → Prop} {d : DefRec} {K : Params → PySem.W.Frag} (hn : l.most = some 63) (hdf : d.params.defaults = [])
    (hY : ∀ (w : World) (h : Heap), YP w h → (K w.params).In h)
    (F : ∀ (w : World) (mg : Str → Option Value) (fa : Addr) (h : Heap), (K w.params).In h → h.Ns mainGlobals mg → mg d.name = some (.ref fa) →
      ∃ fd : FuncData, (∀ (s : Shared) (u : Value), BindsTo s fd ⟨[u], []⟩ [("_law_script", u)]) ∧ ∀ base : Heap, (K w.params).In base → base.Ns mainGlobals mg → FnG l.prog w (K w.params) mg base CX0 17 fa fd ["_law_script"] (spLaw (K w.params))) :
    PySem.W.WalkO q loose XP YP l.row.toRowW d [] (fun f vs => PySem.call f vs) :=
  walk_ofG (n := 63) (k := 17) (x := "_law_script") (sp := fun w => spLaw (K w.params)) hn (by decide) hdf ⟨rfl, by decide, by decide⟩ hY F (fun _ _ a ns hl _ hS => ⟨a, ns, rfl, hS, hl, fun _ => rfl⟩)
end K03
open PySem PySem.W PyProof.Rows
set_option maxRecDepth 100000 in
set_option maxHeartbeats 0 in
theorem PySem.Challenge.cw_nestedwrites_k03_texts_refused_holds : PySem.Challenge.rw_nestedwrites_k03_texts_refused.Holds := by
  w_on; o_law; k_head; (case hw => w_witness2)
  k_fill
  refine K03.walk (l := PySem.Challenge.rw_nestedwrites_k03_texts_refused) rfl rfl (fun w h Y => PySem.W.kIn_of Y) ?F
  case F =>
    intro w mg fa h KX G hmg
    refine' K03.all_mk KX G hmg ?aBK ?aR ?aB ?aNE ?aBM ?aNP ?aBadB ?iBadB ?lBadB ?cBadB ?kBadB ?aIsKey ?lIsKey ?cIsKey ?kIsKey ?aToks ?lToks ?cToks ?kToks ?aKu ?lKu ?cKu ?kKu ?aWr ?lWr ?cWr ?kWr ?aRInit ?iRInit ?lRInit ?cRInit ?kRInit ?aWord ?iWord ?lWord ?cWord ?kWord ?aRefuse ?iRefuse ?lRefuse ?cRefuse ?kRefuse ?aTakeR ?iTakeR ?lTakeR ?cTakeR ?kTakeR ?aWhole ?iWhole ?lWhole ?cWhole ?kWhole ?aTable ?iTable ?lTable ?cTable ?kTable ?aEntry ?iEntry ?lEntry ?cEntry ?kEntry ?aBInit ?iBInit ?lBInit ?cBInit ?kBInit ?lRead ?cRead ?kRead ?aBStr ?iBStr ?lBStr ?cBStr ?kBStr ?aBEq ?iBEq ?lBEq ?cBEq ?kBEq ?aSource ?lSource ?cSource ?kSource ?aTake ?lTake ?cTake ?kTake ?aOf ?lOf ?cOf ?kOf ?aWords ?lWords ?cWords ?kWords ?aLToks ?lLToks ?cLToks ?kLToks ?aLoose ?lLoose ?cLoose ?kLoose ?aLWr ?lLWr ?cLWr ?kLWr ?aLaw ?lLaw ?cLaw ?kLaw ?aTab ?lTab ?cTab ?kTab ?aWants ?lWants ?cWants ?kWants ?aBefore ?lBefore ?cBefore ?kBefore ?aKept ?lKept ?cKept ?kKept ?aSigns ?lSigns ?cSigns ?kSigns ?aInside ?lInside ?cInside ?kInside ?aLonger ?lLonger ?cLonger ?kLonger ?aWrong ?lWrong ?cWrong ?kWrong ?aTold ?lTold ?cTold ?kTold ?rpg ?rhd ?rpo ?rsa ?rmk ?rkc ?rn0 ?rn1 ?rn2 ?rn3 ?rn4 ?rn5 ?bkpg ?bkhd ?bkpo ?bksa ?bkmk ?bkkc ?bkn0 ?xB ?bsa ?bga ?bgg ?bno ?btI ?bk ?bex ?bty ?bhd ?bic ?bsS ?crd ?cga ?cvM ?cv0 ?cv1 ?cv2 ?cv3 ?cmA ?cmR ?cmF ?tyA ?tyN ?tyK ?tyO ?eqN ?zVE ?bca ?bcn ?bct ?bcm ?sVE ?sNE ?cNE ?yNE ?sBM ?cBM ?yBM ?sNP ?cNP ?yNP ?gLE ?gRE ?gKI ?lRES ?lKIN ?lMOD ?z_isinstance ?z_int ?z_bool ?z_list ?z_sorted ?z_len ?z_set ?z_range ?z_enumerate ?z_max ?z_min ?z_abs ?z_any ?z_all ?z_tuple ?z_str ?z_dict ?z_repr
    (case aBK => k_is)
    (case aR => k_is)
    (case aB => k_is)
    (case aNE => k_is)
    (case aBM => k_is)
    (case aNP => k_is)
    (case aBadB => k_is)
    (case aIsKey => k_is)
    (case aToks => k_is)
    (case aKu => k_is)
    (case aWr => k_is)
    (case aRInit => k_is)
    (case aWord => k_is)
    (case aRefuse => k_is)
    (case aTakeR => k_is)
    (case aWhole => k_is)
    (case aTable => k_is)
    (case aEntry => k_is)
    (case aBInit => k_is)
    (case aBStr => k_is)
    (case aBEq => k_is)
    (case aSource => k_is)
    (case aTake => k_is)
    (case aOf => k_is)
    (case aWords => k_is)
    (case aLToks => k_is)
    (case aLoose => k_is)
    (case aLWr => k_is)
    (case aLaw => k_is)
    (case aTab => k_is)
    (case aWants => k_is)
    (case aBefore => k_is)
    (case aKept => k_is)
    (case aSigns => k_is)
    (case aInside => k_is)
    (case aLonger => k_is)
    (case aWrong => k_is)
    (case aTold => k_is)
    (case cmA => k_is)
    (case cmR => k_is)
    (case iBadB => k_is)
    (case lBadB => k_is)
    (case cBadB => k_is)
    (case kBadB => k_is)
    (case lIsKey => k_is)
    (case cIsKey => k_is)
    (case kIsKey => k_is)
    (case lToks => k_is)
    (case cToks => k_is)
    (case kToks => k_is)
    (case lKu => k_is)
    (case cKu => k_is)
    (case kKu => k_is)
    (case lWr => k_is)
    (case cWr => k_is)
    (case kWr => k_is)
    (case iRInit => k_is)
    (case lRInit => k_is)
    (case cRInit => k_is)
    (case kRInit => k_is)
    (case iWord => k_is)
    (case lWord => k_is)
    (case cWord => k_is)
    (case kWord => k_is)
    (case iRefuse => k_is)
    (case lRefuse => k_is)
    (case cRefuse => k_is)
    (case kRefuse => k_is)
    (case iTakeR => k_is)
    (case lTakeR => k_is)
    (case cTakeR => k_is)
    (case kTakeR => k_is)
    (case iWhole => k_is)
    (case lWhole => k_is)
    (case cWhole => k_is)
    (case kWhole => k_is)
    (case iTable => k_is)
    (case lTable => k_is)
    (case cTable => k_is)
    (case kTable => k_is)
    (case iEntry => k_is)
    (case lEntry => k_is)
    (case cEntry => k_is)
    (case kEntry => k_is)
    (case iBInit => k_is)
    (case lBInit => k_is)
    (case cBInit => k_is)
    (case kBInit => k_is)
    (case lRead => k_is)
    (case cRead => k_is)
    (case kRead => k_is)
    (case iBStr => k_is)
    (case lBStr => k_is)
    (case cBStr => k_is)
    (case kBStr => k_is)
    (case iBEq => k_is)
    (case lBEq => k_is)
    (case cBEq => k_is)
    (case kBEq => k_is)
    (case lSource => k_is)
    (case cSource => k_is)
    (case kSource => k_is)
    (case lTake => k_is)
    (case cTake => k_is)
    (case kTake => k_is)
    (case lOf => k_is)
    (case cOf => k_is)
    (case kOf => k_is)
    (case lWords => k_is)
    (case cWords => k_is)
    (case kWords => k_is)
    (case lLToks => k_is)
    (case cLToks => k_is)
    (case kLToks => k_is)
    (case lLoose => k_is)
    (case cLoose => k_is)
    (case kLoose => k_is)
    (case lLWr => k_is)
    (case cLWr => k_is)
    (case kLWr => k_is)
    (case lLaw => k_is)
    (case cLaw => k_is)
    (case kLaw => k_is)
    (case lTab => k_is)
    (case cTab => k_is)
    (case kTab => k_is)
    (case lWants => k_is)
    (case cWants => k_is)
    (case kWants => k_is)
    (case lBefore => k_is)
    (case cBefore => k_is)
    (case kBefore => k_is)
    (case lKept => k_is)
    (case cKept => k_is)
    (case kKept => k_is)
    (case lSigns => k_is)
    (case cSigns => k_is)
    (case kSigns => k_is)
    (case lInside => k_is)
    (case cInside => k_is)
    (case kInside => k_is)
    (case lLonger => k_is)
    (case cLonger => k_is)
    (case kLonger => k_is)
    (case lWrong => k_is)
    (case cWrong => k_is)
    (case kWrong => k_is)
    (case lTold => k_is)
    (case cTold => k_is)
    (case kTold => k_is)
    (case rpg => k_is)
    (case rhd => k_is)
    (case rpo => k_is)
    (case rsa => k_is)
    (case rmk => k_is)
    (case rkc => k_is)
    (case rn0 => k_is)
    (case rn1 => k_is)
    (case rn2 => k_is)
    (case rn3 => k_is)
    (case rn4 => k_is)
    (case rn5 => k_is)
    (case bkpg => k_is)
    (case bkhd => k_is)
    (case bkpo => k_is)
    (case bksa => k_is)
    (case bkmk => k_is)
    (case bkkc => k_is)
    (case bkn0 => k_is)
    (case xB => k_is)
    (case bsa => k_is)
    (case bga => k_is)
    (case bgg => k_is)
    (case bno => k_is)
    (case btI => k_is)
    (case bk => k_is)
    (case bex => k_is)
    (case bty => k_is)
    (case bhd => k_is)
    (case bic => k_is)
    (case bsS => first | k_is | rfl)
    (case crd => k_is)
    (case cga => k_is)
    (case cvM => k_is)
    (case cv0 => k_is)
    (case cv1 => k_is)
    (case cv2 => k_is)
    (case cv3 => k_is)
    (case cmF => k_is)
    (case tyA => k_is)
    (case tyN => k_is)
    (case tyK => k_is)
    (case tyO => k_is)
    (case eqN => k_is)
    (case zVE => k_is)
    (case bca => k_is)
    (case bcn => k_is)
    (case bct => k_is)
    (case bcm => k_is)
    (case sVE => k_is)
    (case sNE => k_is)
    (case cNE => k_is)
    (case yNE => k_is)
    (case sBM => k_is)
    (case cBM => k_is)
    (case yBM => k_is)
    (case sNP => k_is)
    (case cNP => k_is)
    (case yNP => k_is)
    (case gLE => k_is)
    (case gRE => k_is)
    (case gKI => k_is)
    (case lRES => k_is)
    (case lKIN => k_is)
    (case lMOD => k_is)
    (case z_isinstance => k_is)
    (case z_int => k_is)
    (case z_bool => k_is)
    (case z_list => k_is)
    (case z_sorted => k_is)
    (case z_len => k_is)
    (case z_set => k_is)
    (case z_range => k_is)
    (case z_enumerate => k_is)
    (case z_max => k_is)
    (case z_min => k_is)
    (case z_abs => k_is)
    (case z_any => k_is)
    (case z_all => k_is)
    (case z_tuple => k_is)
    (case z_str => k_is)
    (case z_dict => k_is)
    (case z_repr => k_is)
#print axioms PySem.Challenge.cw_nestedwrites_k03_texts_refused_holds
