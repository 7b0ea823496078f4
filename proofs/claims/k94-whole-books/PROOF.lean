import PyProof.Rows.All
import Wide.All
import OpenK.AllK
import Wide.FinOn
import HandS.ForMost
import HandS.Exc
import HandS.ExcOwn
import HandS.ExcIs
import HandS.OwnEq
import HandS.More
import HandS.IsInst
import PyProof.Rows.SetFrom
import HandS.Set
import HandS.Strs
import HandS.SetTxt0
import HandS.Property
import HandS.HeadHook3
import PySem.Challenge.RW_bowkinds_k94_whole_books_back_and_again
import HandS.Star
import HandS.Wide
import HandS.WordsExc
import HandS.Style
set_option Elab.async false
set_option linter.all false
set_option maxRecDepth 100000
set_option maxHeartbeats 4000000

/-! Rules that the hand layer has not: own operators, own == and != with both answers, an item of a list changed in place, an own error without a text. -/
namespace RB
open PySem PySem.Spec PyProof.Rows PySem.SeqAt

section
variable {M : Model} {prog : Program} {w : World} {A : Around} {E : Value → Shared → Prop} {s : Shared} {K : PySem.W.Frag} {x C f : Addr} {ox : Obj} {od : Option Obj} {b tb : Value}

theorem ifBound_ne {args : List Value} {Q : Option Value → Shared → Prop} (X : K.In s.heap) (I : PySem.W.InstAt s.heap x ox C od) (hs : PySem.W.findIn K (.ref C) "__ne__" = some (some (.builtin "object.__ne__")))
    (h : wpAny M A (call (.builtin "object.__ne__") (.ref x :: args)) (fun v => Q (some v)) E s) : wpAny M A (callSpecialIfBound? (.ref x) "__ne__" args) Q E s := by
  simp only [callSpecialIfBound?, bindSpecialIfBound?]
  refine wpAny_holding (wpAny_bind (wpAny_bind (wpAny_bind (I.type.here ((PySem.W.looks_findIn X hs).here ?_)))))
  refine wpAny_bind (wpAny_askSetting (wpAny_ite ?_))
  have last : wpAny M A (call (.builtin "object.__ne__") ([.ref x] ++ args) >>= fun v => pure (some v)) Q E s := wpAny_bind (wpAny_mono h (fun _ _ z => wpAny_pure z) fun _ _ z => z)
  split
  · exact wpAny_bind (wpAny_of_eq (F.cmp_object.ne.bind _) (wpAny_pure (by exact last)))
  · exact wpAny_tryCatch (wpAny_bind (wpAny_of_eq (F.cmp_object.ne.bind _) (wpAny_pure (by exact last))))

theorem entry_ne {Q : Fin → Shared → Prop} (hu : A.units < cLine) (X : K.In s.heap) (I : PySem.W.InstAt s.heap x ox C od) (he : PySem.W.findIn K (.ref C) "__eq__" = some (some (.ref f))) (hf : PySem.W.isFn K (.ref f) = true)
    (h : wpAny (model prog w) A (call (.ref f) [.ref x, b]) (fun v s' => ∃ r, v = .bool r ∧ Q (.done (.ret (.bool (!r)))) s') E s) :
    wpAny (model prog w) A (Builtin.«object.__ne__» ⟨[.ref x, b], []⟩) Q E s := by
  have one : wpAny (model prog w) A (callSpecialIfBound? (.ref x) (Str.ofString "__eq__") [b]) (fun o s' => ∃ r, o = some (.bool r) ∧ Q (.done (.ret (.bool (!r)))) s') E s :=
    PySem.W.ifBound_K X I he hf (wpAny_mono h (fun v s' hv => by
      obtain ⟨r, rfl, q⟩ := hv
      exact ⟨r, rfl, q⟩) fun _ _ z => z)
  unfold Builtin.«object.__ne__»
  repeat (first
    | with_reducible refine wpAny_cRoomFor hu ?_
    | (refine wpAny_bind (m := callSpecialIfBound? (.ref x) (Str.ofString "__eq__") [b]) (wpAny_mono one (fun o s' ho => by
          obtain ⟨r, rfl, q⟩ := ho
          repeat (first | exact q | exact wpAny_pure q | exact wpAny_truthy_bool q | (refine wpAny_bind (m := truthy (.bool _)) (wpAny_truthy_bool ?_)) | wp_step)) fun _ _ z => z))
    | wp_step)

theorem call_ne {Q : Value → Shared → Prop} (hu : A.units + 1 < cLine) (X : K.In s.heap) (I : PySem.W.InstAt s.heap x ox C od) (hm : PySem.W.mroIn K C (.type "object") = some true)
    (he : PySem.W.findIn K (.ref C) "__eq__" = some (some (.ref f))) (hf : PySem.W.isFn K (.ref f) = true)
    (h : wpAny (model prog w) A.in1 (call (.ref f) [.ref x, b]) (fun v s' => ∃ r, v = .bool r ∧ Q (.bool (!r)) s') E s) :
    wpAny (model prog w) A (call (.builtin "object.__ne__") [.ref x, b]) Q E s :=
  wpAny_call (codeAny_call_builtin F.cmp_object.ne.plain F.cmpEntry_ne (PySem.W.check_slot F.cmpKind_ne F.cmpSplit_ne (I.type.andThen (PySem.W.looks_mroIn X hm)) (F.cmpArgs_ne _ _)
    (entry_ne (A := A.in1) hu X I he hf (wpAny_mono h (fun v s' hv => by
      obtain ⟨r, rfl, q⟩ := hv
      exact ⟨r, rfl, q⟩) fun _ _ z => z))))

/-- x != b, where x's class has an own == and no != -/
theorem rc_ne {Q : Value → Shared → Prop} (hu : A.units + 1 < cLine) (X : K.In s.heap) (I : PySem.W.InstAt s.heap x ox C od) (hb : PySem.W.Looks (model prog w) s.heap (typeOf b) tb) (hn : PySem.W.notFirst K C tb = true)
    (hm : PySem.W.mroIn K C (.type "object") = some true) (hs : PySem.W.findIn K (.ref C) "__ne__" = some (some (.builtin "object.__ne__"))) (he : PySem.W.findIn K (.ref C) "__eq__" = some (some (.ref f))) (hf : PySem.W.isFn K (.ref f) = true)
    (h : wpAny (model prog w) A.in1 (call (.ref f) [.ref x, b]) (fun v s' => ∃ r, v = .bool r ∧ Q (.bool (!r)) s') E s) :
    wpAny (model prog w) A (richCompare .NotEq (.ref x) b) Q E s := by
  have one : wpAny (model prog w) A (tryCompare (.ref x) "__ne__" b) (fun o s' => ∃ r, o = some (.bool r) ∧ Q (.bool r) s') E s := by
    unfold tryCompare
    refine wpAny_bind (ifBound_ne X I hs (call_ne hu X I hm he hf (wpAny_mono h (fun v s' hv => ?_) fun _ _ z => z)))
    obtain ⟨r, rfl, q⟩ := hv
    exact ⟨r, rfl, wpAny_pure ⟨!r, rfl, q⟩⟩
  simp only [richCompare, cmpInfo_NotEq, oneThing_ref]
  refine wpAny_holding (wpAny_bind (wpAny_cRoomFor (by omega) ?_))
  refine wpAny_bind (I.type.here (wpAny_bind (hb.here ?_)))
  split
  · rename_i q
    have e : PySem.W.subIn K tb (.ref C) = some false := by
      rcases Bool.or_eq_true_iff.mp hn with e | e
      · rw [beq_iff_eq.mp e] at q; simp at q
      · exact beq_iff_eq.mp e
    refine wpAny_bind ((PySem.W.looks_subIn X e).here ?_)
    simp only [Bool.false_eq_true, if_false]
    refine wpAny_bind (wpAny_mono one (fun o s' z => ?_) fun _ _ z => z)
    obtain ⟨r, rfl, q⟩ := z
    exact wpAny_pure q
  · refine wpAny_bind (wpAny_pure ?_)
    simp only [Bool.false_eq_true, if_false]
    refine wpAny_bind (wpAny_mono one (fun o s' z => ?_) fun _ _ z => z)
    obtain ⟨r, rfl, q⟩ := z
    exact wpAny_pure q
end
end RB

namespace L2.BK
open PySem PySem.Spec PyProof.Rows

section
variable {X : Cx} {CX : CXT} {k : Nat} {C D f : Addr} {fd : FuncData} {ps : List Str} {sp : Sp} {E : XK}

/-- a def runs somewhere below the body -/
theorem run_at {A : Around} {pins : List (Addr × Obj)} {σ : St} {H : Hp} {s : Shared} {Q : VK} {us : List Value} {vs : List V} (sb : Sub X k A) (F : FnOk X.prog X.w X.K X.mg X.base CX k f fd ps sp) (hb : Binds X.K fd ps []) (hx : Passes CX X E)
    (I : Inv X pins σ H s) (r : Vals vs us) (h : sp vs H Q E) : wpAny (model X.prog X.w) A (call (.ref f) us) (EP X pins σ Q) X.xe s := by
  have e0 : Env0 X.prog X.w X.K X.mg X.base A X.stack s H := by
    have e := I.env0
    exact ⟨by rw [sb.fr]; exact e.frames, e.mod, e.bs, e.bsz, e.funs, e.frf, e.hok, e.bare⟩
  have hl : us.length = ps.length := by rw [← r.length]; exact F.len _ _ _ _ h
  have b := hb s us I.kIn (by rw [List.append_nil]; exact hl)
  rw [List.append_nil] at b
  refine wpAny_call (codeAny_mono (F.run A X.stack s H ⟨us, []⟩ us vs Q E sb.room e0 b r h) fun r s' hq => ?_)
  cases r with
  | error e => exact hx pins σ H s e s' I hq
  | ok fl =>
    cases fl with
    | ret u => exact I.after hq
    | next => exact False.elim hq
    | brk => exact False.elim hq
    | cont => exact False.elim hq

theorem relV_any {α : Type} {x : V} {u : Value} (r : RelV x u) (f : Value → α) (d : α) : (match u with | .notImplemented => d | v => f v) = f u := by
  cases x with
  | non => cases r; rfl
  | bl b => cases r; rfl
  | int i => obtain ⟨t, rfl⟩ := r; rfl
  | str z => obtain ⟨t, rfl⟩ := r; rfl
  | byt z => obtain ⟨t, rfl⟩ := r; rfl
  | flt z => obtain ⟨t, rfl⟩ := r; rfl
  | ref a => cases r; rfl
  | ty n => cases r; rfl
theorem cmpBack {pins : List (Addr × Obj)} {σ : St} {Q : VK} {u : Value} {s' : Shared} (h : EP X pins σ Q u s') : PySem.W.CmpBack (EP X pins σ Q) u s' := by
  obtain ⟨x, H', I', r, q⟩ := id h
  unfold PySem.W.CmpBack
  cases x with
  | non => cases r; exact h
  | bl b => cases r; exact h
  | int i => obtain ⟨t, rfl⟩ := r; exact h
  | str z => obtain ⟨t, rfl⟩ := r; exact h
  | byt z => obtain ⟨t, rfl⟩ := r; exact h
  | flt z => obtain ⟨t, rfl⟩ := r; exact h
  | ref a => cases r; exact h
  | ty n => cases r; exact h

/-- a op b by the class's own method, both instances of it -/
def rOwn (C : Addr) (sp : Sp) (E : XK) : R2 := fun x y H Q => ∃ a dx fs b dy gs, x = .ref a ∧ y = .ref b ∧ H a = some (.ins C dx fs) ∧ H b = some (.ins C dy gs) ∧ sp [.ref a, .ref b] H Q E
theorem op_own {op : Operator} {m : Str} (hd : PySem.dunder op.info.2 = m) (F : FnOk X.prog X.w X.K X.mg X.base CX k f fd ps sp) (hr : Room k X.A) (hb : Binds X.K fd ps []) (hx : Passes CX X E) (hm : Meth X.K C m f) (hc : PySem.W.selfFirst X.K C = true) :
    OpR X (binaryOp op) (rOwn C sp E) := by
  intro pins s σ H x y v u Q I rx ry h
  obtain ⟨a, dx, fs, b, dy, gs, rfl, rfl, ha, hb', q⟩ := h
  cases rx
  cases ry
  obtain ⟨mA, J, _⟩ := ins_get I.hok ha
  obtain ⟨mB, J', _⟩ := ins_get I.hok hb'
  obtain ⟨od, J, _⟩ := J.look
  obtain ⟨od', J', _⟩ := J'.look
  obtain ⟨m', hF⟩ := I.fr
  refine PySem.W.binop_K (op := op) hF I.ok.mod.kin J J'.type hc (by rw [hd]; exact hm.at_) hm.fn ?_
  exact thn (run_at (vs := [V.ref a, V.ref b]) ⟨hr, rfl⟩ F hb hx I (.cons rfl (.cons rfl .nil)) q) fun v s' z => cmpBack z

/-- x not in o by the class's own __contains__ -/
def rOwnNotIn (C : Addr) (sp : Sp) (E : XK) : R2 := fun x y H Q => ∃ b dy gs, y = .ref b ∧ H b = some (.ins C dy gs) ∧ sp [.ref b, x] H (fun v H' => ∃ r, v = .bl r ∧ Q (.bl (!r)) H') E
theorem op_notIn_own (F : FnOk X.prog X.w X.K X.mg X.base CX k f fd ps sp) (hr : Room k X.A) (hb : Binds X.K fd ps []) (hx : Passes CX X E) (hm : Meth X.K C "__contains__" f) : OpR X (compareOp .NotIn) (rOwnNotIn C sp E) := by
  intro pins s σ H x y v u Q I rx ry h
  obtain ⟨b, dy, gs, rfl, hb', q⟩ := h
  cases ry
  obtain ⟨mB, J', _⟩ := ins_get I.hok hb'
  obtain ⟨od', J', _⟩ := J'.look
  obtain ⟨m', hF⟩ := I.fr
  refine PySem.W.notIn_K hF I.ok.mod.kin J' hm.at_ hm.fn ?_
  refine thn (run_at (vs := [V.ref b, x]) ⟨hr, rfl⟩ F hb hx I (.cons rfl (.cons rx .nil)) q) fun w s' z => ?_
  obtain ⟨z, H', I', rz, r, ez, q'⟩ := z
  subst ez
  cases rz
  exact wpAny_truthy_bool ⟨.bl (!r), H', I', rfl, q'⟩

/-- the type of what stands on the right of an own == -/
def TyR (K : PySem.W.Frag) (H : Hp) (y : V) (tb : Value) : Prop :=
  (y = .non ∧ tb = .type "NoneType") ∨ (∃ b xs, y = .ref b ∧ H b = some (.lst xs) ∧ tb = .type "list") ∨ ∃ b D dy gs, y = .ref b ∧ H b = some (.ins D dy gs) ∧ tb = .ref D
theorem tyOf_looks {pins : List (Addr × Obj)} {σ : St} {H : Hp} {s : Shared} {y : V} {u tb : Value} (I : Inv X pins σ H s) (r : RelV y u) (h : TyR X.K H y tb) : PySem.W.Looks (model X.prog X.w) s.heap (typeOf u) tb := by
  rcases h with ⟨rfl, rfl⟩ | ⟨b, xs, rfl, hb, rfl⟩ | ⟨b, D, dy, gs, rfl, hb, rfl⟩
  · cases r
    exact PySem.W.Looks.of_pure rfl
  · cases r
    obtain ⟨its, n, r', ho, _⟩ := I.lst hb
    intro A Q E s' e h
    have z := e _ _ ho
    exact wpAny_typeOf (T := "list") ⟨_, z, rfl⟩ h
  · cases r
    obtain ⟨mB, J', _⟩ := ins_get I.hok hb
    obtain ⟨od', J', _⟩ := J'.look
    exact J'.type

/-- a == y by the class's own __eq__ -/
def rOwnEq (K : PySem.W.Frag) (C : Addr) (sp : Sp) (E : XK) : R2 := fun x y H Q => ∃ a dx fs tb, x = .ref a ∧ H a = some (.ins C dx fs) ∧ TyR K H y tb ∧ PySem.W.notFirst K C tb = true ∧ sp [.ref a, y] H Q E
theorem op_eq_own (F : FnOk X.prog X.w X.K X.mg X.base CX k f fd ps sp) (hr : Room k X.A) (hb : Binds X.K fd ps []) (hx : Passes CX X E) (hm : Meth X.K C "__eq__" f) : OpR X (compareOp .Eq) (rOwnEq X.K C sp E) := by
  intro pins s σ H x y v u Q I rx ry h
  obtain ⟨a, dx, fs, tb, rfl, ha, ty, hn, q⟩ := h
  cases rx
  obtain ⟨mA, J, _⟩ := ins_get I.hok ha
  obtain ⟨od, J, _⟩ := J.look
  obtain ⟨m', hF⟩ := I.fr
  show wpAny (model X.prog X.w) X.A (richCompare .Eq (.ref a) u) (EP X pins σ Q) X.xe s
  refine PySem.W.cmp_K (op := .Eq) (tb := tb) hr.units0 hF I.ok.mod.kin J (tyOf_looks I ry ty) hn hm.at_ hm.fn ?_
  exact thn (run_at (vs := [V.ref a, y]) ⟨hr, rfl⟩ F hb hx I (.cons rfl (.cons ry .nil)) q) fun v s' z => cmpBack z

/-- a != y where the class has an own __eq__ alone -/
def rOwnNe (K : PySem.W.Frag) (C : Addr) (sp : Sp) (E : XK) : R2 := fun x y H Q => ∃ a dx fs tb, x = .ref a ∧ H a = some (.ins C dx fs) ∧ TyR K H y tb ∧ PySem.W.notFirst K C tb = true ∧ sp [.ref a, y] H (fun v H' => ∃ r, v = .bl r ∧ Q (.bl (!r)) H') E
theorem op_ne_own (F : FnOk X.prog X.w X.K X.mg X.base CX k f fd ps sp) (hr : Room (k + 1) X.A) (hb : Binds X.K fd ps []) (hx : Passes CX X E) (hm : Meth X.K C "__eq__" f)
    (hne : PySem.W.findIn X.K (.ref C) "__ne__" = some (some (.builtin "object.__ne__"))) (hob : PySem.W.mroIn X.K C (.type "object") = some true) : OpR X (compareOp .NotEq) (rOwnNe X.K C sp E) := by
  intro pins s σ H x y v u Q I rx ry h
  obtain ⟨a, dx, fs, tb, rfl, ha, ty, hn, q⟩ := h
  cases rx
  obtain ⟨mA, J, _⟩ := ins_get I.hok ha
  obtain ⟨od, J, _⟩ := J.look
  show wpAny (model X.prog X.w) X.A (richCompare .NotEq (.ref a) u) (EP X pins σ Q) X.xe s
  refine RB.rc_ne (tb := tb) (Nat.lt_of_le_of_lt (Nat.add_le_add_left (by decide) _) hr.units) I.kIn J (tyOf_looks I ry ty) hn hob hne hm.at_ hm.fn ?_
  refine thn (run_at (vs := [V.ref a, y]) ⟨hr.in1, rfl⟩ F hb hx I (.cons rfl (.cons ry .nil)) q) fun w s' z => ?_
  obtain ⟨z, H', I', rz, r, ez, q'⟩ := z
  subst ez
  cases rz
  exact ⟨r, rfl, .bl (!r), H', I', rfl, q'⟩

/-- an item of a list, read for an augmented store -/
def rGetL (K : PySem.W.Frag) : V → V → Hp → VK → Prop := fun o i H Q => ∃ p xs j v, o = .ref p ∧ i = .int ((j : Nat) : Int) ∧ SqL K H p xs ∧ xs[j]? = some v ∧ Q v H
theorem get_list : PGet X (rGetL X.K) := by
  intro pins s σ H o i ov iv Q I ro ri h
  obtain ⟨p, xs, j, v, rfl, rfl, hq, hv, q⟩ := h
  cases ro
  obtain ⟨t, rfl⟩ := ri
  obtain ⟨its, r, pl, hz⟩ := I.list hq
  obtain ⟨u, hu, ru⟩ := r.get hv
  have hl := r.length
  have hn := line63
  have hj : j < xs.length := (List.getElem?_eq_some_iff.mp hv).1
  exact wpAny_getItem_list pl.isList (by omega) (by omega) (by rw [Int.toNat_natCast]; simpa using hu) ⟨v, H, I, ru, q⟩

/-- X(), X an own exception class without own __init__ -/
theorem pmk_own0 {bmB : List Value} {B newId initId : String} {x : Str} {p pos : Pos} (F : ExcBaseFacts B newId initId bmB) (q : PySem.W.excIn X.K C bmB newId = true) (gC : X.mg x = some (.ref C))
    (kC : PySem.W.keepIn X.K (.ref C) = true) (r : Raises X (.ref C)) (hg : Gl X x) (hdb : (x == ("__debug__" : Str)) = false := by decide) :
    PMk X (.Call (.Name x p) [] [] pos) (fun _ H Q => Q (.ref C) none H) := by
  intro pins s σ H Q I h
  refine wpAny_Call_Name_kw (ld_glob I hg gC ?_ hdb)
  refine PySem.W.callWith_K0 I.kIn kC ?_
  obtain ⟨bm, N, nm, qn, bs, hdct, sn, sub, ab, col, dd, k0, k1, k2, k3, k5, mN, hC, hN, hni, T⟩ := exc_obj I.kIn q
  refine wpAny_call_exc_subT F T hC hN hni (fun h' e hm => ?_) (Nat.zero_le _)
  exact mk_of I hm r h (I.hok.gone hm.new)
end
end L2.BK

/-! Sets of texts: made of a list, sorted. -/
namespace L2.BK
open PySem PySem.Spec PyProof.Rows PySem.Froz

section
variable {P : Program} {w : World} {A : Around} {E : Value → Shared → Prop} {s : Shared} {R : Result → Shared → Prop}

def LedOk (w : World) (D : SD) : Prop := Ris D.2.2.place.toList ∧ (w.params.followText "set-order" = true ∨ D.2.2.led = true)
theorem led_tail {ep : Nat} {es1 : Array (Int × Value)} {t2 : SetTable} {wd : Bool} (r : Ris t2.place.toList) (l : w.params.followText "set-order" = true ∨ t2.led = true) : LedOk w (tailTx ep es1 t2 wd) := by
  unfold tailTx
  split
  · exact ⟨relayAll_ris _ _ _, l.imp id fun z => by rw [relayAll_led]; exact z⟩
  · exact ⟨r, l⟩
theorem led_add {D : SD} {h : Int} {v : Value} (x : LedOk w D) : LedOk w (addTx h v D) := by
  have r := layNew_ris D.2.2 D.1 h v x.1
  have l : w.params.followText "set-order" = true ∨ (layNew D.2.2 D.1 h v).2.1.led = true := x.2.imp id fun z => by rw [layNew_led]; exact z
  unfold addTx
  refine led_tail ?_ ?_
  · split <;> exact r
  · split <;> exact l

/-- a text is added, a new one or one that is there -/
theorem add_any {a : Addr} {D : SD} {l : List Str} {k : Str} {u : Tok} {Q : Bool → Shared → Prop} (ho : s.heap.get? a = some (sObj "set" D)) (F : TxOk P w D l) (L : LedOk w D) (hb : l.length + 1 < scanBound)
    (h : ∀ (D' : SD) (l' : List Str) (h' : Heap) (b : Bool), h'.get? a = some (sObj "set" D') → TxOk P w D' l' → LedOk w D' → (∀ j, j ∈ l' ↔ j ∈ l ∨ j = k) → l'.length ≤ l.length + 1 → (l.Nodup → l'.Nodup) →
      (∀ c o, c ≠ a → s.heap.get? c = some o → h'.get? c = some o) → Q b { s with heap := h' }) : wpAny (model P w) A (setAddHashed a (.str k u) (hashStr w k)) Q E s := by
  by_cases hk : k ∈ l
  · obtain ⟨es, ep, t⟩ := D
    have hd : (sObj "set" (es, ep, t)).data = .set es ep t := rfl
    have hf : t.fits es.size = true := F.fit
    have hel : ElemsOf (strKind P w) es.toList := F.el
    have hsz : es.size = l.length := F.sz
    have hkey : (strKind P w).is k (.str k u) = true := is_str k u
    unfold setAddHashed setAddHashedIn
    refine wpAny_holding (wpAny_bind (wpAny_setState_of ho hd hf ?_))
    dsimp only
    rw [byScan_of rfl (by omega) hel]
    simp only [↓reduceIte]
    unfold setAddByScan
    refine wpAny_bind ?_
    refine wpAny_bind (wpAny_rule ?_)
    refine wpAny_bind (wpAny_setScan_of (knd := strKind P w) (k := k) hkey ho hd hf hel ?_)
    cases hfi : List.findIdx? (fun e => (strKind P w).is k e.2) es.toList with
    | none =>
      obtain ⟨e, he, q⟩ := (F.mem k).mp hk
      have c := List.findIdx?_eq_none_iff.mp hfi e he
      rw [q] at c
      cases c
    | some j =>
      dsimp only
      refine wpAny_pure (wpAny_pure ?_)
      exact h (es, ep, t) l s.heap _ ho F L (fun j => ⟨.inl, fun z => z.elim id fun e => e ▸ hk⟩) (Nat.le_succ _) id fun c o _ e => e
  · refine add_x ho F hk hb ?_
    refine h _ (k :: l) _ _ (get_upd _ ho rfl) (add_ok u F) (led_add L) (fun j => by rw [List.mem_cons]; exact Or.comm) (Nat.le_refl _) (fun nd => List.nodup_cons.mpr ⟨hk, nd⟩) fun c o hc e => ?_
    exact PySem.Heap.get?_update_of_ne _ (Ne.symm hc) e

theorem loopT {I : Addr} {fp wr : List Addr} {G : Array GenState → Array GenState → Prop} {n : Nat} {Pv : Nat → Value → Prop} {St : Nat → Shared → Prop} (W : WalksS P w A.in1 I fp wr G n Pv St) (S : Addr) (hSf : S ∉ fp) (xs : List Str) (hsz : xs.length = n) (hn1 : n < 1000)
    (hval : ∀ i v, Pv i v → ∃ t, v = .str (xs.getD i Str.empty) t) :
    ∀ (k i : Nat) (s : Shared) (D : SD) (l : List Str), n - i = k → i ≤ n → St i s → s.heap.get? S = some (sObj "set" D) → TxOk P w D l → LedOk w D → (∀ j, j ∈ l ↔ j ∈ xs.take i) → l.length ≤ i → l.Nodup →
      (∀ s' D' l', Moved (S :: wr) G s s' → s'.heap.get? S = some (sObj "set" D') → TxOk P w D' l' → LedOk w D' → (∀ j, j ∈ l' ↔ j ∈ xs) → l'.length ≤ n → l'.Nodup → R (.ok (.ret .none)) s') →
      codeAny (model P w) A (.builtin "set.update.loop" ⟨[.ref S, .ref I], []⟩) R s := by
  have hSw : S ∉ wr := fun h => hSf (W.sub _ h)
  have hsub : ∀ b ∈ wr, b ∈ S :: wr := fun b hb => List.mem_cons_of_mem _ hb
  intro k
  induction k with
  | zero =>
    intro i s D l hk hi hst hS F L hm hl nd hR
    have hin : i = n := by omega
    subst hin
    refine codeAny_builtin PyProof.Rows.F.entry_set_update_loop ?_
    rw [Around.under_plainId PyProof.Rows.F.plain_set_update_loop _]
    show wpAny _ A.in1 (pyNext (.ref I) >>= _) _ _ s
    refine wpAny_bind (W.done s _ _ hst fun s' mv => ?_)
    show wpAny _ A.in1 (ret Value.none) _ _ s'
    exact wpAny_pure (hR s' D l (mv.mono hsub) (mv.heap S _ hSw hS) F L (fun j => by rw [hm j, ← hsz, List.take_length]) hl nd)
  | succ k ih =>
    intro i s D l hk hi hst hS F L hm hl nd hR
    have hlt : i < n := by omega
    refine codeAny_builtin PyProof.Rows.F.entry_set_update_loop ?_
    rw [Around.under_plainId PyProof.Rows.F.plain_set_update_loop _]
    show wpAny _ A.in1 (pyNext (.ref I) >>= _) _ _ s
    refine wpAny_bind (W.item i s _ _ hlt hst fun v s' hP hst' mv => ?_)
    obtain ⟨t, rfl⟩ := hval i v hP
    have hS' := mv.heap S _ hSw hS
    show wpAny _ A.in1 (holding [Value.str (xs.getD i Str.empty) t] (setAdd S (.str (xs.getD i Str.empty) t)) >>= _) _ _ s'
    refine wpAny_bind (wpAny_holding ?_)
    unfold setAdd
    refine wpAny_holding ?_
    refine wpAny_bind ((PySem.strKind P w).pyHash (k := xs.getD i Str.empty) (is_str _ _) ?_)
    refine add_any (s := { s' with toks := s'.toks + 1 }) hS' F L (by unfold scanBound; omega) fun D' l' h' b hS2 F' L' hm' hl' nd' kp => ?_
    refine wpAny_pure ⟨plainId_quiet PyProof.Rows.F.plain_set_update_loop _, ih (i + 1) _ D' l' (by omega) hlt (W.frame _ s' _ _ hst' (Nat.le_succ _) fun b hb o e => ?_) hS2 F' L' (fun j => ?_) (by omega) (nd' nd) fun s'' D2 l2 mv2 g1 g2 g3 g4 g5 g6 => ?_⟩
    · exact kp b o (fun z => hSf (z ▸ hb)) e
    · rw [hm' j, hm j]
      have hil : i < xs.length := by omega
      rw [List.take_add_one, List.getElem?_eq_getElem hil, List.mem_append, List.getD_eq_getElem?_getD, List.getElem?_eq_getElem hil]
      simp
    · refine hR s'' D2 l2 (Moved.trans W.gtrans ((mv.mono hsub).then_heap (Nat.le_succ _) fun b o hb e => ?_) mv2) g1 g2 g3 g4 g5 g6
      exact kp b o (fun z => hb (by rw [z]; exact List.mem_cons_self)) e

/-- an empty set is made, its order told by the world -/
theorem new_set1 (a : Value) {Q₁ : Value → Shared → Prop} (h : Q₁ (.ref s.heap.objs.size) { s with heap := s.heap.push (sObj "set" (#[], 0, .fresh 0 0 (!w.params.followText "set-order"))) }) :
    codeAny (model P w) A (.call (.builtin "set.__new__") ⟨[.type "set", a], []⟩) (wants Q₁ E) s := by
  refine codeAny_of_tree ?_
  show wpAny _ A.in1 (do checkBuiltinCall "set.__new__" ⟨[.type "set", a], []⟩; again (.builtin "set.__new__" ⟨[.type "set", a], []⟩)) _ _ s
  refine wpAny_bind (wpAny_of_eq (PySem.F.newCall_set_1 a) (wpAny_pure ⟨plainId_quiet PySem.F.plain_set_new _, codeAny_builtin PySem.F.entry_set_new ?_⟩))
  rw [Around.under_plainId PySem.F.plain_set_new _]
  unfold Builtin.«set.__new__» Builtin.Frozenset.newClass
  have hsub := sub_set_self
  obtain ⟨hp, g, d, tk, os⟩ := s
  dsimp only
  wp_walk
  refine wpAny_askSetting (wpAny_pure ?_)
  dsimp only
  simp only [newObj]
  refine wpAny_bind (wpAny_alloc (wpAny_pure ?_))
  exact wpAny_pure h

def TxDone (P : Program) (w : World) (xs : List Str) (s : Shared) (s' : Shared) : Prop :=
  ∃ (h' : Heap) (tk : Nat) (D : SD) (zs : List Str), s' = { s with heap := h', toks := tk } ∧ h'.get? s.heap.objs.size = some (sObj "set" D) ∧ TxOk P w D zs ∧ LedOk w D ∧ (∀ j, j ∈ zs ↔ j ∈ xs) ∧ zs.length ≤ xs.length ∧ zs.Nodup ∧
    ∀ b o, s.heap.get? b = some o → h'.get? b = some o

set_option maxHeartbeats 8000000 in
/-- set(xs), xs a list of texts -/
theorem call_set_texts {l : Addr} {items : Array Value} {xs : List Str} {Q : Value → Shared → Prop}
    (hh : A.handled = none) (hl : s.heap.IsList l items) (hi : PyProof.Rows.StrsAre items.toList xs) (hn1 : xs.length < 1000)
    (h : ∀ s', TxDone P w xs s s' → Q (.ref s.heap.objs.size) s') :
    wpAny (model P w) A (call (.type "set") [.ref l]) Q E s := by
  obtain ⟨c, tl, hmro⟩ := PySem.F.called_set.mro
  have hmade := PySem.F.called_set.made
  have hsub := PySem.F.called_set.sub
  refine wpAny_call (codeAny_of_tree ?_)
  show wpAny _ _ (callAny (.type "set") _) _ _ _
  refine wpAny_pure ⟨Code.quiet_builtin _ (by decide +kernel), codeAny_builtin PySem.F.entry_type_call ?_⟩
  rw [Around.under_plain (weight_type_call_type "set" [.ref l] []) rfl]
  have h1 := PySem.F.called_set.notType
  have h2 := PySem.F.called_set.canCreate
  have hct := PySem.F.typeCall_set_1 (.ref l)
  repeat (any_goals (first | assumption | wp_step))
  refine codeAny_mono (new_set1 (.ref l) (E := E) (Q₁ := fun obj s₁ => obj = .ref s.heap.objs.size ∧ s₁ = { s with heap := s.heap.push (sObj "set" (#[], 0, .fresh 0 0 (!w.params.followText "set-order"))) }) ⟨rfl, rfl⟩) fun r s₁ hr => ?_
  cases r with
  | error e => exact hr
  | ok fl =>
    cases fl with
    | ret obj =>
      obtain ⟨rfl, rfl⟩ := hr
      have hS : (s.heap.push (sObj "set" (#[], 0, .fresh 0 0 (!w.params.followText "set-order")))).get? s.heap.objs.size = some (sObj "set" (#[], 0, .fresh 0 0 (!w.params.followText "set-order"))) := Heap.get?_push_size _ rfl
      have hT : Shared.TypeIs { s with heap := s.heap.push (sObj "set" (#[], 0, .fresh 0 0 (!w.params.followText "set-order"))) } (.ref s.heap.objs.size) "set" := ⟨_, hS, rfl⟩
      have hli := PySem.F.called_set.init.lookup
      have hbi := PySem.F.called_set.init.bind (.ref s.heap.objs.size)
      repeat (any_goals (first | assumption | wp_step))
      refine codeAny_mono (codeAny_call_builtin (R := wants (fun r s₂ => r = .none ∧ TxDone P w xs s s₂) E) PySem.F.called_set.init.plain PySem.F.entry_set_init (check_set_init_1 hT ?_)) fun r₂ s₂ hr₂ => ?_
      · obtain ⟨ol, hol, hcl, nl, hdl⟩ := hl
        obtain ⟨ocls, odict, odata, oslots⟩ := ol
        simp only at hcl hdl
        subst hcl; subst hdl
        have hol' : (s.heap.push (sObj "set" (#[], 0, .fresh 0 0 (!w.params.followText "set-order")))).get? l = some { cls := .type "list", dict := odict, data := .seq items nl, slots := oslots } := Heap.get?_push_of_some _ hol
        have hsls := PySem.F.sub_list_set
        have hslf := PySem.F.sub_list_frozenset
        have hne : (Value.type "list" == Value.type "dict") = false := by decide
        have hl1 : (s.heap.push (sObj "set" (#[], 0, .fresh 0 0 (!w.params.followText "set-order")))).IsList l items := ⟨_, hol', rfl, nl, rfl⟩
        unfold Builtin.«set.__init__» noKeywords Builtin.Frozenset.updateFrom
        generalize hPI : pyIter = PI
        wp_walk
        subst hPI
        refine wpAny_pyIter_list hl1 ?_
        refine wpAny_bind (wpAny_runValue ?_)
        have hlS : l < s.heap.objs.size := Heap.lt_size hol
        have hh3 : A.in1.in1.in1.handled = none := by simp [hh]
        have hneI : l ≠ (s.heap.push (sObj "set" (#[], 0, .fresh 0 0 (!w.params.followText "set-order")))).objs.size := by
          rw [Heap.size_push]; exact Nat.ne_of_lt (Nat.lt_succ_of_lt hlS)
        have hSf : s.heap.objs.size ∉ [(s.heap.push (sObj "set" (#[], 0, .fresh 0 0 (!w.params.followText "set-order")))).objs.size, l] := by
          rw [Heap.size_push]; simp only [List.mem_cons, List.mem_singleton, List.not_mem_nil, or_false, not_or]
          exact ⟨Nat.ne_of_lt (Nat.lt_succ_self _), Nat.ne_of_gt hlS⟩
        have hsz : xs.length = items.size := by rw [← StrsAre.len_eq hi, Array.length_toList]
        have hval : ∀ (i : Nat) (v : Value), items[i]? = some v → ∃ t, v = .str (xs.getD i Str.empty) t := fun i v hv => SS.strs_at hi i v (by rw [Array.getElem?_toList]; exact hv)
        refine loopT ((Walks.list hh3 _ l hneI items).toS) s.heap.objs.size
          hSf xs hsz (by rw [← hsz]; exact hn1) hval (items.size - 0) 0 _ (#[], 0, .fresh 0 0 (!w.params.followText "set-order")) [] (by omega) (Nat.zero_le _)
          ⟨⟨_, Heap.get?_push_size _ rfl, rfl, rfl⟩, (hl1.push _)⟩ (Heap.get?_push_of_some _ hS) (TxOk.nil (by rfl)) ?led (fun j => by simp) (Nat.le_refl _) List.nodup_nil ?hR
        case led =>
          refine ⟨List.Pairwise.nil, ?_⟩
          show _ ∨ (!w.params.followText "set-order") = true
          cases w.params.followText "set-order" <;> simp
        case hR =>
          intro s' D' l' hm g1 g2 g3 g4 g5 g6
          obtain ⟨h', g', d', tk', os'⟩ := s'
          have eg : g' = s.gens := hm.gens
          have ed : d' = s.drawn := hm.drawn
          have eo : os' = s.os := hm.os
          subst eg; subst ed; subst eo
          show wpAny _ _ _ _ _ _
          refine wpAny_pure ?_
          show wpAny _ _ (ret Value.none) _ _ _
          refine wpAny_pure ⟨rfl, h', tk', D', l', rfl, g1, g2, g3, g4, by omega, g6, fun b o e => ?_⟩
          have hb : b < s.heap.objs.size := Heap.lt_size e
          have hb1 : b ≠ s.heap.objs.size := Nat.ne_of_lt hb
          have hb2 : b ≠ (s.heap.push (sObj "set" (#[], 0, .fresh 0 0 (!w.params.followText "set-order")))).objs.size := by
            rw [Heap.size_push]; exact Nat.ne_of_lt (Nat.lt_succ_of_lt hb)
          exact hm.heap b o (by simp only [List.mem_cons, List.mem_singleton, List.not_mem_nil, or_false, not_or]; exact ⟨hb1, hb2⟩) (Heap.get?_push_of_some _ (Heap.get?_push_of_some _ e))
      · cases r₂ with
        | error e => exact hr₂
        | ok fl₂ =>
          cases fl₂ with
          | ret r =>
            obtain ⟨rfl, hq⟩ := hr₂
            repeat (any_goals (first | assumption | wp_step))
            exact h _ hq
          | _ => exact hr₂.elim
    | _ => exact hr.elim

/-! ### sorted -/
theorem perm_of_sub {α : Type} [DecidableEq α] : ∀ (l ys : List α), l.Nodup → (∀ x ∈ l, x ∈ ys) → ys.length ≤ l.length → ys.Perm l
  | [], ys, _, _, h => by
    have e : ys = [] := List.eq_nil_of_length_eq_zero (Nat.le_zero.mp h)
    rw [e]
  | x :: l, ys, nd, hs, h => by
    obtain ⟨h1, h2⟩ := List.nodup_cons.mp nd
    have hx : x ∈ ys := hs x List.mem_cons_self
    have e := List.length_erase_of_mem hx
    have ih := perm_of_sub l (ys.erase x) h2 (fun y hy => (List.mem_erase_of_ne (fun (q : y = x) => h1 (q ▸ hy))).2 (hs y (List.mem_cons_of_mem _ hy))) (by rw [e]; rw [List.length_cons] at h; omega)
    exact (List.perm_cons_erase hx).trans (ih.cons x)
theorem texts_of : ∀ (l : List Value), (∀ v ∈ l, ∃ k tk, v = Value.str k tk) → ∃ ks : List Str, PyProof.Rows.StrsAre l ks ∧ ∀ k, k ∈ ks ↔ ∃ v ∈ l, Value.isStrOf k v = true
  | [], _ => ⟨[], .nil, fun k => by simp⟩
  | v :: l, h => by
    obtain ⟨k, tk, rfl⟩ := h v List.mem_cons_self
    obtain ⟨ks, h1, h2⟩ := texts_of l fun u hu => h u (List.mem_cons_of_mem _ hu)
    refine ⟨k :: ks, .cons k tk h1, fun j => ?_⟩
    rw [List.mem_cons, h2 j]
    constructor
    · rintro (rfl | ⟨u, hu, q⟩)
      · exact ⟨_, List.mem_cons_self, by simp [Value.isStrOf]⟩
      · exact ⟨u, List.mem_cons_of_mem _ hu, q⟩
    · rintro ⟨u, hu, q⟩
      rcases List.mem_cons.mp hu with rfl | hu
      · obtain ⟨t, e⟩ := Value.isStrOf_shape (x := j) q
        cases e
        exact .inl rfl
      · exact .inr ⟨u, hu, q⟩
end

/-- a set of texts, the members in some order -/
def SetTx (P : Program) (w : World) (a : Addr) (l : List Str) : HO := .ext fun h => ∃ D : SD, h.get? a = some (sObj "set" D) ∧ TxOk P w D l ∧ LedOk w D
section
variable {X : Cx}
theorem setTx_new {P : Program} {w : World} {H : Hp} {h : Heap} {a : Addr} {l : List Str} {D : SD} (h1 : h.get? a = some (sObj "set" D)) (h2 : TxOk P w D l) (h3 : LedOk w D) : ObjOk P w H h a (SetTx P w a l) :=
  ⟨⟨D, h1, h2, h3⟩, ⟨_, h1⟩, fun _ _ ⟨D', g1, g2, g3⟩ k => ⟨D', k _ g1, g2, g3⟩⟩
/-- set(xs) of a list of texts -/
def rSetTx (P : Program) (w : World) (K : PySem.W.Frag) : List V → Hp → VK → Prop := fun xs H Q => ∃ (a : Addr) (zs : List Str), xs = [.ref a] ∧ SqL K H a (zs.map V.str) ∧ zs.length < 1000 ∧
  ∀ p l, H p = none → (∀ j, j ∈ l ↔ j ∈ zs) → l.Nodup → l.length ≤ zs.length → Q (.ref p) (upd H p (SetTx P w p l))
theorem cr_setTx (hc : X.calm = true) : CallR X (.type "set") (rSetTx X.prog X.w X.K) := by
  intro pins s σ H xs us Q I r h
  obtain ⟨a, zs, rfl, hs, hn, q⟩ := h
  obtain ⟨its, rv, hl, _⟩ := I.list hs
  rw [Vals.ref1 r]
  refine call_set_texts (I.ok.hd hc) hl.isList (by simpa using strsAre_of rv) hn fun s' hd => ?_
  obtain ⟨h', tk, D, l, rfl, g1, g2, g3, g4, g5, g6, g7⟩ := hd
  exact ⟨.ref _, upd H s.heap.objs.size (SetTx X.prog X.w s.heap.objs.size l), I.laid (t' := tk) g7 (Nat.le_refl _) (setTx_new g1 g2 g3), rfl, q _ l (I.hok.fresh (Nat.le_refl _)) g4 g6 g5⟩
/-- sorted(a set of texts) -/
def rSortTx (P : Program) (w : World) : List V → Hp → VK → Prop := fun xs H Q => ∃ (a : Addr) (l : List Str), xs = [.ref a] ∧ H a = some (SetTx P w a l) ∧ l.Nodup ∧ l.length < 64 ∧
  ∀ ys p, ys.Perm l → sortedS ys = true → H p = none → Q (.ref p) (upd H p (.lst (ys.map V.str)))
theorem cr_sortTx (hc : X.calm = true) : CallR X (.builtin "sorted") (rSortTx X.prog X.w) := by
  intro pins s σ H xs us Q I r h
  obtain ⟨a, l, rfl, ha, nd, h64, q⟩ := h
  obtain ⟨⟨D, g1, g2, g3, g4⟩, _, _⟩ := I.hok a _ ha
  obtain ⟨es, ep, t⟩ := D
  rw [Vals.ref1 r]
  have hsz : es.size = l.length := g2.sz
  refine Calls.call_function_entry PyProof.Rows.kind_sorted PyProof.Rows.plain_sorted PyProof.Rows.entry_sorted (PyProof.Rows.args_sorted1 _) ?_
  unfold Builtin.«sorted»
  refine wpAny_bind (m := checkCount "sorted" 1 1 _) (wpAny_pure ?_)
  refine wpAny_bind (collect_set (A := X.A.in1) (w := X.w) (I.ok.hd hc) ⟨_, g1, rfl, rfl⟩ g2.fit (by rw [hsz]; unfold scanBound; omega) g3 g4 fun s1 vs k1 hz gg oo pm => ?_)
  have hvl : vs.length = l.length := by rw [pm.length_eq, List.length_map, Array.length_toList]; exact hsz
  obtain ⟨ks, hK, hKm⟩ := texts_of vs fun v hv => by
    obtain ⟨e, he, rfl⟩ := List.mem_map.mp (pm.mem_iff.mp hv)
    obtain ⟨⟨k, hk, _⟩, _⟩ := g2.el e he
    obtain ⟨t, et⟩ := Value.isStrOf_shape (x := k) hk
    exact ⟨k, t, et⟩
  have hkl : ks.length = l.length := by rw [← hvl]; exact (StrsAre.len_eq hK).symm
  have hp : ks.Perm l := perm_of_sub l ks nd (fun x hx => by
    obtain ⟨e, he, z⟩ := (g2.mem x).mp hx
    exact (hKm x).mpr ⟨e.2, pm.mem_iff.mpr (List.mem_map.mpr ⟨e, he, rfl⟩), z⟩) (Nat.le_of_eq hkl)
  have J : Inv X pins σ H { s with heap := s1.heap, gens := s1.gens, drawn := s1.drawn, toks := s1.toks } :=
    I.call (ch := []) (Un.kept k1) (I.hok.kept k1) (by rw [gg]; exact I.bare) (fun _ z => nomatch z)
  have e1 : s1 = { s with heap := s1.heap, gens := s1.gens, drawn := s1.drawn, toks := s1.toks } := by
    cases s1
    cases s
    cases oo
    rfl
  rw [e1]
  generalize s1.heap = h1 at *
  refine wpAny_bind (wpAny_newList ?_ (by rw [hvl, sizeLine_eq]; omega))
  have hoL : (h1.push (seqObj "list" vs.toArray 0)).get? h1.objs.size = some (seqObj "list" vs.toArray 0) := Heap.get?_push_size _ rfl
  show wpAny _ _ _ _ _ { s with heap := h1.push (seqObj "list" vs.toArray 0), gens := s1.gens, drawn := s1.drawn, toks := s1.toks }
  refine wpAny_bind (wpAny_holding (wpAny_call_entry PyProof.Rows.slot_list_sort ⟨_, hoL, rfl⟩ PyProof.Rows.entry_list_sort
    (list_sort_treeK strKind_oneLt (s := { s with heap := h1.push (seqObj "list" vs.toArray 0), gens := s1.gens, drawn := s1.drawn, toks := s1.toks }) hoL hK.keysOf (fun v₁ v₂ rest e => keyKind_strs (by rw [← e]; exact hK)) (by rw [hvl]; exact h64) fun st' hp hs => ⟨_, rfl, ?_⟩)
    (PyProof.Rows.args_list_sort _)))
  obtain ⟨ys, f1, f2, f3⟩ := sorted_out_str hK hp hs
  obtain ⟨e', he'⟩ := PyProof.Rows.sortedHeap_at (vs := vs) (out := (arrOf st').map (·.2)) hoL
  have hlen : (ys.map V.str).length ≤ sizeLine := by
    rw [List.length_map, f2.length_eq, hkl, sizeLine_eq]
    omega
  refine wpAny_pure ⟨_, rfl, .ref h1.objs.size, upd H h1.objs.size (.lst (ys.map V.str)), J.laid (t' := s1.toks) (fun b u e => ?_) (Nat.le_refl _) ⟨hlen, _, e', vals_of_strs f1, he'⟩, rfl, q ys _ (f2.trans ‹ks.Perm l›) f3 (J.hok.fresh (Nat.le_refl _))⟩
  have hlt := Heap.lt_size e
  rw [sortedHeap_old (Nat.ne_of_lt hlt) (by rw [PyProof.Rows.size_push']; exact Nat.lt_succ_of_lt hlt)]
  exact Heap.get?_push_of_some _ e
end
end L2.BK

/-! repr of nested data: defs that run where no repr runs. -/
namespace L2.BK
open PySem PySem.Spec PyProof.Rows

/-- a def's promise, where no repr runs around the call -/
structure FnG (P : Program) (w : World) (K : PySem.W.Frag) (mg : Str → Option Value) (base : Heap) (CX : CXT) (k : Nat) (f : Addr) (fd : FuncData) (ps : List Str) (sp : Sp) : Prop where
  len : ∀ vs H Q E, sp vs H Q E → vs.length = ps.length
  run : ∀ (A : Around) (outer : List Env) (s : Shared) (H : Hp) (args : Args) (us : List Value) (vs : List V) (Q : VK) (E : XK), A.guards = some [] → Room k A → Env0 P w K mg base A outer s H → BindsTo s fd args (ps.zip us) → Vals vs us → sp vs H Q E →
    codeAny (model P w) A (.call (.ref f) args) (CR CX outer P w H s Q E) s

section
variable {P : Program} {w : World} {K : PySem.W.Frag} {mg : Str → Option Value} {base : Heap}
/-- the rule for such a def: its body, with the fact that no repr runs -/
theorem fun_okG {CX : CXT} {x qual : Str} {st : Stmt} {f : Addr} {fd : FuncData} {N ps : List Str} {k : Nat} {sp : Sp} (F : Fun K x qual st f fd) (S : FnScope N ps (defScope st)) (len : ∀ vs H Q E, sp vs H Q E → vs.length = ps.length)
    (hbody : ∀ (cdv : Value) (A : Around) (outer : List Env) (s : Shared) (H : Hp) (vs : List V) (Q : VK) (E : XK), (A.deeper (envOfC qual (defScope st) s.heap.objs.size f cdv)).guards = some [] → Room k (A.deeper (envOfC qual (defScope st) s.heap.objs.size f cdv)) → sp vs H Q E →
      ∃ t, PSs (cxOf CX P w K mg base N qual (defScope st) f cdv A outer s H E) (defBody st) t ∧ t { nx := fun _ H' => Q .non H', rt := Q } (start N vs) H) : FnG P w K mg base CX (k + 1) f fd ps sp := by
  obtain ⟨oc, od, kV, doc, pm, an, cdv, ct, osl, rfl, lk, hcd⟩ := F.ex
  refine ⟨len, fun A outer s H args us vs Q E hg hr e0 hb r hsp => ?_⟩
  have hl := len _ _ _ _ hsp
  have KX : K.In s.heap := e0.mod.kin.keeps fun b o e => (e0.bs b o e).1
  have lim : s.heap.NoLimit := e0.mod.nolimit.keeps fun b o e => (e0.bs b o e).1
  have hkind : ∀ y ∈ ps.zip us, (defScope st).names.lookup y.1 = some .local ∨ ((defScope st).names.lookup y.1 = some .cell ∧ ((cellsFrom (s.heap.objs.size + 1) (defScope st).names []).lookup y.1).isSome = true) := fun y hy =>
    (S.par y.1 (List.of_mem_zip (show (y.1, y.2) ∈ _ from hy)).1).imp id fun q => ⟨q, PySem.W.cellsFrom_some _ _ _ (.inl q)⟩
  refine codeAny_call_function hr.depth (KX _ _ lk) rfl S.co S.gen rfl (PySem.W.codeRec_of KX hcd) (hb _ _ _ _ ?_)
  refine wpAny_newFunctionEnv_cells S.kind hkind fun env he s1 x => ?_
  subst he
  refine ⟨lim.keeps x.toInCall.keep, codeAny_func ?_⟩
  obtain ⟨t, ht, hq⟩ := hbody cdv A outer s H vs Q E hg (hr.deeper _) hsp
  have I : Inv (cxOf CX P w K mg base N qual (defScope st) f cdv A outer s H E) [] (start N vs) H s1 := inv_start S hr.hd e0 hl r x
  refine wpAny_mono (ht.run [] s1 (start N vs) H _ I hq) (fun fl s' hs => ?_) fun e s' hs => hs
  cases fl with
  | ret u =>
    obtain ⟨v, σ', H', J, rv, q⟩ := hs
    exact ⟨v, H', J.os, J.bare, J.base, J.hok, rv, q⟩
  | next =>
    obtain ⟨σ', H', J, q⟩ := hs
    exact ⟨V.non, H', J.os, J.bare, J.base, J.hok, rfl, q⟩
  | brk => exact hs.elim fun _ z => z.elim fun _ z => False.elim z.2
  | cont => exact hs.elim fun _ z => z.elim fun _ z => False.elim z.2

theorem FnG.mono {CX : CXT} {j k : Nat} {f : Addr} {fd : FuncData} {ps : List Str} {sp : Sp} (F : FnG P w K mg base CX j f fd ps sp) (h : j ≤ k) : FnG P w K mg base CX k f fd ps sp :=
  ⟨F.len, fun A outer s H args us vs Q E hg hr => F.run A outer s H args us vs Q E hg (hr.mono h)⟩
end

section
variable {X : Cx} {CX : CXT} {k : Nat} {f : Addr} {fd : FuncData} {ps : List Str} {sp : Sp} {E : XK} {x : Str} {p pos : Pos} {e : Expr} {es : List Expr} {t : TA}
/-- f(e, ..) of such a def -/
theorem pe_callG (F : FnG X.prog X.w X.K X.mg X.base CX k f fd ps sp) (hgd : X.A.guards = some []) (hr : Room k X.A) (hg : Gl X x) (hm : X.mg x = some (.ref f)) (hk : PySem.W.keepIn X.K (.ref f) = true) (hb : Binds X.K fd ps []) (hx : Passes CX X E)
    (ha : PA X (e :: es) t) (hdb : (x == ("__debug__" : Str)) = false := by decide) (he : starEach (e :: es) X.env = (false, eval e X.env) :: starEach es X.env := by rfl) (hpl : (backTo pos (starEach es X.env)).any (·.1) = false := by rfl) :
    PE X (.Call (.Name x p) (e :: es) [] pos) (tCall sp [] E t) := by
  refine ⟨fun pins s σ H Q I h => ?_⟩
  refine wpAny_Call_Name_kw (ld_glob I hg hm ?_ hdb)
  refine PySem.W.callWith_K (h₀ := X.base) I.ok.mod.kin hk (thn (ha.run pos pins s σ H _ I h) fun us s1 ⟨vs, H1, I1, r, q⟩ => ⟨I1.kIn, ?_⟩) he hpl
  have q : sp (vs ++ []) H1 Q E := q
  rw [List.append_nil] at q
  show wpAny _ _ (call (.ref f) us) _ _ _
  have hl : us.length = ps.length := by rw [← r.length]; exact F.len _ _ _ _ q
  have b := hb s1 us I1.kIn (by rw [List.append_nil]; exact hl)
  rw [List.append_nil] at b
  refine wpAny_call (codeAny_mono (F.run X.A X.stack s1 H1 ⟨us, []⟩ us vs Q E hgd hr I1.env0 b r q) fun r s' hq => ?_)
  cases r with
  | error e => exact hx pins σ H1 s1 e s' I1 hq
  | ok fl =>
    cases fl with
    | ret u => exact I1.after hq
    | next => exact False.elim hq
    | brk => exact False.elim hq
    | cont => exact False.elim hq

/-- repr of plain data -/
theorem call_reprD (hgd : X.A.guards = some []) (hu : X.A.units + 66 < cLine) : CallR X (.builtin "repr") (fun xs H Q => ∃ v d, xs = [v] ∧ Dp X.K H v d ∧ SeqAt.shaped d = true ∧ (∃ a, v = .ref a) ∧ PyData.showable d = true ∧ d.shown.length ≤ sizeLine ∧ Q (.str d.shown) H) := by
  intro pins s σ H xs us Q I r h
  obtain ⟨v, d, rfl, hd, hs, ⟨a, rfl⟩, hw, hz, q⟩ := h
  rw [Vals.ref1 r]
  obtain ⟨as, rd⟩ := Dp.reads I d (.ref a) (.ref a) hd rfl
  have hdep := SeqAt.depth_of_shaped hs
  exact repr_of_reads' rd hw (PyData.noDict_hsm (PyData.hasDict_of_canLay d (SeqAt.canLay_of_shaped hs))) hgd (by omega) (fun _ _ e => e) (fun h' u tk hk => ⟨.str d.shown, H, I.kept hk, ⟨u, rfl⟩, q⟩) hz
end

/-! ### the law's call -/
theorem law_callG {P : Program} {w : World} {K : PySem.W.Frag} {mg mb : Str → Option Value} {CX : CXT} {k : Nat} {fa a : Addr} {fd : FuncData} {x : Str} {sp : Sp} {s1 : Shared} {vs : List Value} {ns : List Int}
    (KX : K.In s1.heap) (hns : s1.heap.Ns mainGlobals mg) (hb : s1.heap.Ns builtinsNs mb) (hbb : ∀ x : Str, x ≠ "__name__" → mb x = bootBuiltins x) (hlim : s1.heap.NoLimit) (hg : s1.gens = #[])
    (ha : s1.heap.get? a = some { cls := .type "list", data := .seq vs.toArray }) (hi : IntsAre vs ns) (hl : ns.length ≤ sizeLine) (hr : Room k callerA)
    (F : ∀ base : Heap, K.In base → base.Ns mainGlobals mg → FnG P w K mg base CX k fa fd [x] sp) (hbind : ∀ (s : Shared) (u : Value), BindsTo s fd ⟨[u], []⟩ [(x, u)])
    (hsp : ∀ H : Hp, Only H → SqL K H a (ns.map V.int) → sp [.ref a] H (fun v _ => v = .bl true) fun _ _ _ => False)
    (hCX : ∀ H e s', CX [] H s1 (fun _ _ _ => False) e s' → False) :
    codeAny (model P w) callerA (.call (.ref fa) ⟨[.ref a], []⟩) (fun r s' => r = .ok (.ret (.bool true)) ∧ OldK s1.heap s'.heap ∧ s'.os = s1.os ∧ AllBare s'.gens) s1 := by
  have rv := vals_ints hi
  have lenV := hi.length
  -- the run over an abstract heap H that tracks the script alone, if anything
  have main : ∀ H : Hp, Only H → SqL K H a (ns.map V.int) → HOk P w H s1.heap → (∀ b u, H b = some u → b = a) → ((∃ u, H a = some u) → K.lookup a = none) →
      codeAny (model P w) callerA (.call (.ref fa) ⟨[.ref a], []⟩) (fun r s' => r = .ok (.ret (.bool true)) ∧ OldK s1.heap s'.heap ∧ s'.os = s1.os ∧ AllBare s'.gens) s1 := by
    intro H hO hS hok hA hK
    have free : ∀ {b : Addr} {o : Obj} {es : Array DictEntry} {ep : Nat}, s1.heap.get? b = some o → o.data = .dict es ep → H b = none := fun {b o es ep} e d => by
      cases q : H b with
      | none => rfl
      | some u =>
        cases hA b u q
        rw [ha] at e
        cases e
        exact nomatch (show Data.seq vs.toArray _ = Data.dict es ep from d)
    have nsB : ∀ {b : Addr} {m : Str → Option Value}, s1.heap.Ns b m → (hidT s1.heap H).Ns b m := fun {b m} ⟨o, es, ep, e, d, r⟩ => ⟨o, es, ep, hidT_get e (free e d), d, r⟩
    have hKb : K.In (hidT s1.heap H) := fun b o e => hidT_get (KX b o e) (by
      cases q : H b with
      | none => rfl
      | some u =>
        cases hA b u q
        rw [hK ⟨u, q⟩] at e
        cases e)
    have hM : Mod K mg (hidT s1.heap H) := ⟨hKb, nsB hns, ⟨mb, nsB hb, hbb⟩, let ⟨mc, h1, h2⟩ := hlim; ⟨mc, nsB h1, h2⟩⟩
    have e0 : Env0 P w K mg (hidT s1.heap H) callerA [] s1 H := ⟨rfl, hM, fun b o e => of_hidT e, Nat.le_of_eq (hidT_size _ _), trivial, fun b z => absurd (show b ∈ ([] : List Addr) from z) (by simp), hok, .of_eq hg⟩
    refine codeAny_mono ((F _ hKb (nsB hns)).run callerA [] s1 H ⟨[.ref a], []⟩ [.ref a] [.ref a] _ _ rfl hr e0 (hbind s1 (.ref a)) (.cons rfl .nil) (hsp H hO hS)) fun r s' h => ?_
    cases r with
    | error e => exact (hCX H e s' h).elim
    | ok fl =>
      cases fl with
      | next => exact False.elim h
      | brk => exact False.elim h
      | cont => exact False.elim h
      | ret u =>
        obtain ⟨v, H', os, bare, un, hok', r', q⟩ := h
        cases (show v = .bl true from q)
        cases (show u = Value.bool true from r')
        refine ⟨rfl, OldK.of_keep fun b o e => ?_, os, bare⟩
        rcases hO b with q | ⟨ob, xs, q⟩
        · exact un.keep b o e q (fun z => absurd (show b ∈ ([] : List Addr) from z) (by simp)) (by simp)
        · obtain ⟨e1, _⟩ := hok b _ q
          obtain ⟨e2, _⟩ := hok' b _ (un.frzs b ob _ q)
          rw [e] at e1
          cases e1
          exact e2
  cases hk : K.lookup a with
  | some o =>
    have e := KX a o hk
    rw [ha] at e
    cases e
    refine main (fun _ => none) (fun _ => .inl rfl) (.inr ⟨_, vs.toArray, _, hk, rfl, rfl, rfl, by rw [List.size_toArray, lenV]; exact hl, by simpa using rv⟩) (fun b u z => nomatch (show (none : Option HO) = some u from z)) (fun b u z => nomatch (show (none : Option HO) = some u from z)) fun ⟨u, z⟩ => nomatch (show (none : Option HO) = some u from z)
  | none =>
    refine main (fun b => if b = a then some (.frz { cls := .type "list", data := .seq vs.toArray } (.lst (ns.map V.int))) else none) (fun b => ?_) (.inl (.inr ⟨{ cls := .type "list", data := .seq vs.toArray }, if_pos rfl⟩)) (fun b u z => ?_) (fun b u z => ?_) fun _ => hk
    · by_cases hb : b = a
      · exact .inr ⟨_, _, if_pos hb⟩
      · exact .inl (if_neg hb)
    · by_cases hb : b = a
      · cases (if_pos hb).symm.trans z
        subst hb
        exact ⟨ha, by rw [List.length_map]; exact hl, vs, _, rv, ha⟩
      · exact nomatch (if_neg hb).symm.trans z
    · by_cases hb : b = a
      · exact hb
      · exact nomatch (if_neg hb).symm.trans z

theorem walk_ofG {l : PySem.W.OpenLaw} {n k : Nat} {q : Program} {loose : List Str} {XP : (Str → Option Value) → Heap → Prop} {YP : World → Heap → Prop} {d : DefRec} {K : Params → PySem.W.Frag} {CX : World → CXT} {sp : World → Sp} {x : Str}
    (hn : l.most = some n) (hn2 : n ≤ sizeLine) (hdf : d.params.defaults = []) (hr : Room k callerA)
    (hY : ∀ (w : World) (h : Heap), YP w h → (K w.params).In h)
    (F : ∀ (w : World) (mg : Str → Option Value) (fa : Addr) (h : Heap), (K w.params).In h → h.Ns mainGlobals mg → mg d.name = some (.ref fa) →
      ∃ fd : FuncData, (∀ (s : Shared) (u : Value), BindsTo s fd ⟨[u], []⟩ [(x, u)]) ∧
        ∀ base : Heap, (K w.params).In base → base.Ns mainGlobals mg → FnG l.prog w (K w.params) mg base (CX w) k fa fd [x] (sp w))
    (hsp : ∀ (w : World) (H : Hp) (a : Addr) (ns : List Int), ns.length ≤ n → Only H → SqL (K w.params) H a (ns.map V.int) → sp w [.ref a] H (fun v _ => v = .bl true) fun _ _ _ => False)
    (hCX : ∀ (w : World) (H : Hp) (s : Shared) (e : Value) (s' : Shared), CX w [] H s (fun _ _ _ => False) e s' → False) :
    PySem.W.WalkO q loose XP YP l.row.toRowW d [] (fun f vs => PySem.call f vs) := by
  refine Att.attach_call hn hdf fun w s₀ s₁ mg mb fa o pm cd doc a vs ns G Y ho hd hcd hmg hobj hints hlen hg => ?_
  have KX := hY w _ Y
  obtain ⟨fd, hb, hF⟩ := F w mg fa _ KX G.T.g hmg
  exact law_callG KX G.T.g G.T.b G.T.builtins G.T.nolimit hg hobj hints (Nat.le_trans hlen hn2) hr hF hb (fun H hO hS => hsp w H a ns hlen hO hS) fun H e s' => hCX w H s₁ e s'
end L2.BK

/-! The text by places, and what its top leaves. -/
namespace Bk
open PySem L2
def top (i : Nat) : Stmt := PySem.Challenge.pw_bowkinds_k94_whole_books_back_and_again.main.body.getD i (.Pass ⟨0, 0, 0, 0⟩)
abbrev s_turnedBow : Stmt := top 8
abbrev s_isInteger : Stmt := top 12
abbrev s_isPlace : Stmt := top 13
abbrev s_isBow : Stmt := top 14
abbrev s_areBows : Stmt := top 15
abbrev s_isWay : Stmt := top 16
abbrev s_areWays : Stmt := top 17
abbrev s_isEdit : Stmt := top 24
abbrev s_edRow : Stmt := top 25
abbrev s_edKind : Stmt := top 26
abbrev s_bag : Stmt := top 29
abbrev s_take : Stmt := top 30
abbrev s_alike : Stmt := top 31
abbrev s_mixed : Stmt := top 32
abbrev s_one : Stmt := top 33
abbrev s_allWays : Stmt := top 34
abbrev s_bow : Stmt := top 35
abbrev s_bows : Stmt := top 36
abbrev s_spread : Stmt := top 37
abbrev s_waysDrawn : Stmt := top 38
abbrev s_other : Stmt := top 39
abbrev s_drawnBows : Stmt := top 40
abbrev s_edits : Stmt := top 41
abbrev s_face : Stmt := top 42
abbrev s_turned : Stmt := top 43
abbrev s_done : Stmt := top 44
abbrev s_equals : Stmt := top 45
abbrev s_through : Stmt := top 46
abbrev s_copyR : Stmt := top 47
abbrev s_lastR : Stmt := top 48
abbrev s_law : Stmt := top 49
abbrev s_kInit : Stmt := inClass (top 19) 0
abbrev s_kWays : Stmt := inClass (top 19) 1
abbrev s_kTurned : Stmt := inClass (top 19) 2
abbrev s_kHas : Stmt := inClass (top 19) 5
abbrev s_kOr : Stmt := inClass (top 19) 9
abbrev s_kSub : Stmt := inClass (top 19) 11
abbrev s_kEq : Stmt := inClass (top 19) 12
abbrev s_rInit : Stmt := inClass (top 21) 0
abbrev s_rBows : Stmt := inClass (top 21) 1
abbrev s_rPut : Stmt := inClass (top 21) 3
abbrev s_rTurned : Stmt := inClass (top 21) 7
abbrev s_rEq : Stmt := inClass (top 21) 14
abbrev s_bInit : Stmt := inClass (top 27) 0
abbrev s_bRow : Stmt := inClass (top 27) 1
abbrev s_bKind : Stmt := inClass (top 27) 2
abbrev s_bDo : Stmt := inClass (top 27) 3
abbrev s_bBack : Stmt := inClass (top 27) 4
abbrev s_bAgain : Stmt := inClass (top 27) 5
abbrev s_bLog : Stmt := inClass (top 27) 6
abbrev s_bCopied : Stmt := inClass (top 27) 7
abbrev s_bLen : Stmt := inClass (top 27) 8
abbrev s_bEq : Stmt := inClass (top 27) 10
/-- a def of the module -/
structure Gf (K : PySem.W.Frag) (mg : Str → Option Value) (x : Str) (st : Stmt) (ps : List Str) where
  f : Addr
  fd : FuncData
  F : Fun K x x st f fd
  mg : mg x = some (.ref f)
  b : Binds K fd ps []
/-- a method -/
structure Gm (K : PySem.W.Frag) (C : Addr) (m qual : Str) (st : Stmt) (ps : List Str) where
  f : Addr
  fd : FuncData
  F : Fun K m qual st f fd
  m : Meth K C m f
  b : Binds K fd ps []
/-- a property's def -/
structure Gp (K : PySem.W.Frag) (C : Addr) (m qual : Str) (st : Stmt) (ps : List Str) where
  p : Addr
  f : Addr
  fd : FuncData
  F : Fun K m qual st f fd
  m : PropOf K C m p f
  b : Binds K fd ps []
/-- a class -/
structure Gc (K : PySem.W.Frag) (mg : Str → Option Value) (x : Str) where
  C : Addr
  cl : Cls K C
  mg : mg x = some (.ref C)
  makes : PySem.W.makesIn K C = true
  kp : PySem.W.keepIn K (.ref C) = true
  c1 : PySem.W.findIn K (.ref C) "__class__" = some (some (.builtin "object.__class__"))
  c2 : PySem.W.specialIn K (.builtin "object.__class__") "__get__" = some (some (.builtin "getset_descriptor.__get__"))
  c3 : PySem.W.takesIn K (.builtin "object.__class__") = some true
  ob : PySem.W.mroIn K C (.type "object") = some true
  sf : PySem.W.kitOne K (.ref C) (.ref C) = some true
structure Txt (P : Program) (w : World) (K : PySem.W.Frag) (mg : Str → Option Value) where
  n_bool : mg "bool" = none
  n_int : mg "int" = none
  n_isinstance : mg "isinstance" = none
  n_list : mg "list" = none
  n_tuple : mg "tuple" = none
  n_all : mg "all" = none
  n_str : mg "str" = none
  n_sorted : mg "sorted" = none
  n_set : mg "set" = none
  n_len : mg "len" = none
  n_range : mg "range" = none
  n_abs : mg "abs" = none
  n_repr : mg "repr" = none
  kind : Gc K mg "Kind"
  row : Gc K mg "Row"
  book : Gc K mg "Book"
  a_its_ways : NoAttr K kind.C "its_ways"
  a_its_bows : NoAttr K row.C "its_bows"
  a_its_states : NoAttr K book.C "its_states"
  a_its_edits : NoAttr K book.C "its_edits"
  a_its_undone : NoAttr K book.C "its_undone"
  first : PySem.W.selfFirst K kind.C = true
  ne1 : PySem.W.findIn K (.ref book.C) "__ne__" = some (some (.builtin "object.__ne__"))
  nf1 : PySem.W.notFirst K book.C (.ref book.C) = true
  nf2 : PySem.W.notFirst K book.C (.type "list") = true
  nf3 : PySem.W.notFirst K book.C (.type "NoneType") = true
  nf4 : PySem.W.notFirst K row.C (.ref row.C) = true
  nf5 : PySem.W.notFirst K kind.C (.ref kind.C) = true
  il : PySem.W.kitOne K (.type "list") (.ref book.C) = some false
  in_ : PySem.W.kitOne K (.type "NoneType") (.ref book.C) = some false
  most : ∃ t, mg "MOST_PLACE" = some (.int 1000000000000000000000000000000 t)
  ways : Addr
  mWays : mg "WAYS" = some (.ref ways)
  vWays : ∃ (o : Obj) (its : Array Value) (n : Nat), K.lookup ways = some o ∧ o.cls = .type "tuple" ∧ o.data = .seq its n ∧ its.size ≤ sizeLine ∧ Vals [.str "apart", .str "begun", .str "chained", .str "crossing", .str "ended", .str "same", .str "within"] its.toList
  lens : Addr
  mLens : mg "LENGTHS" = some (.ref lens)
  vLens : ∃ es n, KDict K w lens es n
  len1 : ∃ t, PySem.W.nsIn K lens "put" = some (some (.int 2 t))
  len2 : ∃ t, PySem.W.nsIn K lens "row" = some (some (.int 2 t))
  len3 : ∃ t, PySem.W.nsIn K lens "let" = some (some (.int 2 t))
  len4 : ∃ t, PySem.W.nsIn K lens "bar" = some (some (.int 2 t))
  len5 : ∃ t, PySem.W.nsIn K lens "turn" = some (some (.int 1 t))
  cErr : Addr
  mErr : mg "BowError" = some (.ref cErr)
  cNot : Addr
  mNot : mg "Nothing" = some (.ref cNot)
  xNot : PySem.W.excIn K cNot [.type "ValueError", .type "Exception", .type "BaseException", .type "object"] "ValueError.__new__" = true
  kNot : PySem.W.keepIn K (.ref cNot) = true
  bNot : PySem.W.subIn K (.ref cNot) (.type "BaseException") = some true
  tNot : PySem.W.typeIn K (.ref cNot) = some (.type "type")
  mNE : PySem.W.exmOne K (.ref cNot) (.ref cErr) = some true
  iNot : PySem.W.kitOne K (.ref cNot) (.ref cNot) = some true
  eNot : ExcC K cNot
  turnedBow : Gf K mg "turned_bow" s_turnedBow ["bow"]
  isInteger : Gf K mg "is_integer" s_isInteger ["thing"]
  isPlace : Gf K mg "is_place" s_isPlace ["thing"]
  isBow : Gf K mg "is_bow" s_isBow ["thing"]
  areBows : Gf K mg "are_bows" s_areBows ["thing"]
  isWay : Gf K mg "is_way" s_isWay ["thing"]
  areWays : Gf K mg "are_ways" s_areWays ["thing"]
  isEdit : Gf K mg "is_edit" s_isEdit ["thing"]
  edRow : Gf K mg "edited_row" s_edRow ["row", "edit"]
  edKind : Gf K mg "edited_kind" s_edKind ["kind", "edit"]
  bag : Gf K mg "_law_bag" s_bag ["_law_script"]
  take : Gf K mg "_law_take" s_take ["_law_bag_here", "_law_many"]
  alike : Gf K mg "_law_alike" s_alike ["_law_found", "_law_due"]
  mixed : Gf K mg "_law_mixed" s_mixed ["_law_bag_here", "_law_things"]
  one : Gf K mg "_law_one" s_one ["_law_bag_here", "_law_things"]
  allWays : Gf K mg "_law_all_ways" s_allWays []
  bow : Gf K mg "_law_bow" s_bow ["_law_bag_here", "_law_places"]
  bows : Gf K mg "_law_bows" s_bows ["_law_bag_here", "_law_many", "_law_places"]
  spread : Gf K mg "_law_spread" s_spread ["_law_bag_here", "_law_bows_here"]
  waysDrawn : Gf K mg "_law_ways_drawn" s_waysDrawn ["_law_bag_here"]
  other : Gf K mg "_law_other" s_other ["_law_ways"]
  drawnBows : Gf K mg "_law_drawn_bows" s_drawnBows ["_law_bag_here", "_law_most"]
  edits : Gf K mg "_law_edits" s_edits ["_law_bag_here"]
  face : Gf K mg "_law_face" s_face ["_law_book"]
  turned : Gf K mg "_law_turned" s_turned ["_law_book", "_law_way"]
  done : Gf K mg "_law_done" s_done ["_law_bows_here", "_law_ways", "_law_edits_here"]
  equals : Gf K mg "_law_equals_right" s_equals ["_law_bag_here", "_law_bows_here", "_law_ways", "_law_edits_here", "_law_book"]
  through : Gf K mg "_law_through_right" s_through ["_law_book", "_law_first", "_law_edits_here", "_law_faces"]
  copyR : Gf K mg "_law_copy_right" s_copyR ["_law_book", "_law_first", "_law_edits_here", "_law_faces", "_law_spot"]
  lastR : Gf K mg "_law_last_right" s_lastR ["_law_book", "_law_edits_here", "_law_faces", "_law_spot"]
  kInit : Gm K kind.C "__init__" "Kind.__init__" s_kInit ["self", "ways"]
  kWays : Gm K kind.C "ways" "Kind.ways" s_kWays ["self"]
  kTurned : Gm K kind.C "turned" "Kind.turned" s_kTurned ["self"]
  kHas : Gm K kind.C "__contains__" "Kind.__contains__" s_kHas ["self", "thing"]
  kOr : Gm K kind.C "__or__" "Kind.__or__" s_kOr ["self", "other"]
  kSub : Gm K kind.C "__sub__" "Kind.__sub__" s_kSub ["self", "other"]
  kEq : Gm K kind.C "__eq__" "Kind.__eq__" s_kEq ["self", "other"]
  rInit : Gm K row.C "__init__" "Row.__init__" s_rInit ["self", "bows"]
  rBows : Gm K row.C "bows" "Row.bows" s_rBows ["self"]
  rPut : Gm K row.C "put" "Row.put" s_rPut ["self", "bow"]
  rTurned : Gm K row.C "turned" "Row.turned" s_rTurned ["self"]
  rEq : Gm K row.C "__eq__" "Row.__eq__" s_rEq ["self", "other"]
  bInit : Gm K book.C "__init__" "Book.__init__" s_bInit ["self", "row", "kind"]
  bRow : Gp K book.C "row" "Book.row" s_bRow ["self"]
  bKind : Gp K book.C "kind" "Book.kind" s_bKind ["self"]
  bDo : Gm K book.C "do" "Book.do" s_bDo ["self", "edit"]
  bBack : Gm K book.C "back" "Book.back" s_bBack ["self"]
  bAgain : Gm K book.C "again" "Book.again" s_bAgain ["self"]
  bLog : Gm K book.C "log" "Book.log" s_bLog ["self"]
  bCopied : Gm K book.C "copied" "Book.copied" s_bCopied ["self"]
  bLen : Gm K book.C "__len__" "Book.__len__" s_bLen ["self"]
  bEq : Gm K book.C "__eq__" "Book.__eq__" s_bEq ["self", "other"]
theorem kit_self {K : PySem.W.Frag} {t : Value} : PySem.W.kitOne K t t = some true := if_pos (beq_self_eq_true t)
theorem kit_no {K : PySem.W.Frag} {t : Value} {C : Addr} {b : Bool} (h1 : PySem.W.hasDictIn K C = true) (h2 : PySem.W.typeIn K (.ref C) = some (.type "type")) (h3 : PySem.W.subIn K t (.ref C) = some b) (h4 : (t == Value.ref C) = false) : PySem.W.kitOne K t (.ref C) = some b := by
  obtain ⟨cd, hc, _⟩ := PySem.W.any_some h1
  have e2 : ((PySem.W.clsIn K C).isSome && PySem.W.typeIn K (.ref C) == some (.type "type")) = true := by rw [hc, h2] <;> rfl
  unfold PySem.W.kitOne
  rw [if_neg (by rw [h4]; exact Bool.false_ne_true)]
  show (if ((PySem.W.clsIn K C).isSome && PySem.W.typeIn K (.ref C) == some (.type "type")) = true then PySem.W.subIn K t (.ref C) else none) = some b
  rw [if_pos e2]
  exact h3
section
variable {K : PySem.W.Frag} {h : Heap} {mg : Str → Option Value}
theorem gf_mk {x : Str} {st : Stmt} {ps : List Str} (X : K.In h) (G : h.Ns mainGlobals mg) {f : Addr} {oc : Value} {od an : Option Addr} {osl : Array (Option Value)} {kV doc pm cdv ct : Value}
    (a : PySem.W.nsIn K mainGlobals x = some (some (.ref f))) (l : K.lookup f = some ⟨oc, od, .func (PySem.W.fnOf x x (defArgs st) (defBody st) (defScope st) .none kV doc pm an cdv ct), osl⟩)
    (c : PySem.W.codeIn K cdv x = true) (k : PySem.W.keepIn K (.ref f) = true)
    (hb : ∀ (kV doc pm : Value) (an : Option Addr) (cdv ct : Value) (us : List Value), us.length = ps.length → bindArgs (PySem.W.fnOf x x (defArgs st) (defBody st) (defScope st) .none kV doc pm an cdv ct) ⟨us, []⟩ = pure (ps.zip us)) : Nonempty (Gf K mg x st ps) :=
  ⟨⟨f, _, fun_mk l c k, PySem.W.mg_of X G a, (fun_mk l c k).binds hb⟩⟩
theorem gm_mk {C : Addr} {x qual : Str} {st : Stmt} {ps : List Str} {f : Addr} {oc : Value} {od an : Option Addr} {osl : Array (Option Value)} {kV doc pm cdv ct : Value}
    (a : PySem.W.findIn K (.ref C) x = some (some (.ref f))) (i : PySem.W.isFn K (.ref f) = true) (l : K.lookup f = some ⟨oc, od, .func (PySem.W.fnOf x qual (defArgs st) (defBody st) (defScope st) .none kV doc pm an cdv ct), osl⟩)
    (c : PySem.W.codeIn K cdv qual = true) (k : PySem.W.keepIn K (.ref f) = true)
    (hb : ∀ (kV doc pm : Value) (an : Option Addr) (cdv ct : Value) (us : List Value), us.length = ps.length → bindArgs (PySem.W.fnOf x qual (defArgs st) (defBody st) (defScope st) .none kV doc pm an cdv ct) ⟨us, []⟩ = pure (ps.zip us)) : Nonempty (Gm K C x qual st ps) :=
  ⟨⟨f, _, fun_mk l c k, ⟨a, i, k⟩, (fun_mk l c k).binds hb⟩⟩
theorem gp_mk {C : Addr} {x qual : Str} {st : Stmt} {ps : List Str} {p f : Addr} {oc : Value} {od an : Option Addr} {osl : Array (Option Value)} {kV doc pm cdv ct : Value}
    (a : PySem.W.findIn K (.ref C) x = some (some (.ref p))) (g : PySem.W.specialIn K (.ref p) "__get__" = some (some (.builtin "property.__get__"))) (t : PySem.W.takesIn K (.ref p) = some true) (r : ∃ rest, PySem.W.recIn K p "property" = some (.ref f :: rest))
    (l : K.lookup f = some ⟨oc, od, .func (PySem.W.fnOf x qual (defArgs st) (defBody st) (defScope st) .none kV doc pm an cdv ct), osl⟩)
    (c : PySem.W.codeIn K cdv qual = true) (k : PySem.W.keepIn K (.ref f) = true)
    (hb : ∀ (kV doc pm : Value) (an : Option Addr) (cdv ct : Value) (us : List Value), us.length = ps.length → bindArgs (PySem.W.fnOf x qual (defArgs st) (defBody st) (defScope st) .none kV doc pm an cdv ct) ⟨us, []⟩ = pure (ps.zip us)) : Nonempty (Gp K C x qual st ps) :=
  ⟨⟨p, f, _, fun_mk l c k, ⟨a, g, t, r⟩, (fun_mk l c k).binds hb⟩⟩
theorem gc_mk {x : Str} (X : K.In h) (G : h.Ns mainGlobals mg) {C : Addr} (a : PySem.W.nsIn K mainGlobals x = some (some (.ref C)))
    (pg : PySem.W.plainGet K C Str.empty = true) (hd : PySem.W.hasDictIn K C = true) (po : PySem.W.plainOver K C = true) (sa : PySem.W.findIn K (.ref C) "__setattr__" = some (some (.builtin "object.__setattr__"))) (mk : PySem.W.makesIn K C = true) (kc : PySem.W.keepIn K (.ref C) = true)
    (c1 : PySem.W.findIn K (.ref C) "__class__" = some (some (.builtin "object.__class__"))) (c2 : PySem.W.specialIn K (.builtin "object.__class__") "__get__" = some (some (.builtin "getset_descriptor.__get__"))) (c3 : PySem.W.takesIn K (.builtin "object.__class__") = some true)
    (ob : PySem.W.mroIn K C (.type "object") = some true) (sf : PySem.W.kitOne K (.ref C) (.ref C) = some true) : ∃ g : Gc K mg x, g.C = C :=
  ⟨⟨C, ⟨pg, hd, po, sa⟩, PySem.W.mg_of X G a, mk, kc, c1, c2, c3, ob, sf⟩, rfl⟩
end
theorem all_mk {P : Program} {w : World} {K : PySem.W.Frag} {h : Heap} {mg : Str → Option Value} (X : K.In h) (G : h.Ns mainGlobals mg)
    {C_Kind : Addr}
    {C_Row : Addr}
    {C_Book : Addr}
    {tM t1 t2 t3 t4 t5 : Tok} {ways lens cErr cNot : Addr} {ddW : Option Addr} {itW : Array Value} {nW : Nat} {slW : Array (Option Value)}
    {f_turnedBow : Addr} {od_turnedBow an_turnedBow : Option Addr} {sl_turnedBow : Array (Option Value)} {oc_turnedBow kV_turnedBow dc_turnedBow pm_turnedBow cd_turnedBow ct_turnedBow : Value}
    {f_isInteger : Addr} {od_isInteger an_isInteger : Option Addr} {sl_isInteger : Array (Option Value)} {oc_isInteger kV_isInteger dc_isInteger pm_isInteger cd_isInteger ct_isInteger : Value}
    {f_isPlace : Addr} {od_isPlace an_isPlace : Option Addr} {sl_isPlace : Array (Option Value)} {oc_isPlace kV_isPlace dc_isPlace pm_isPlace cd_isPlace ct_isPlace : Value}
    {f_isBow : Addr} {od_isBow an_isBow : Option Addr} {sl_isBow : Array (Option Value)} {oc_isBow kV_isBow dc_isBow pm_isBow cd_isBow ct_isBow : Value}
    {f_areBows : Addr} {od_areBows an_areBows : Option Addr} {sl_areBows : Array (Option Value)} {oc_areBows kV_areBows dc_areBows pm_areBows cd_areBows ct_areBows : Value}
    {f_isWay : Addr} {od_isWay an_isWay : Option Addr} {sl_isWay : Array (Option Value)} {oc_isWay kV_isWay dc_isWay pm_isWay cd_isWay ct_isWay : Value}
    {f_areWays : Addr} {od_areWays an_areWays : Option Addr} {sl_areWays : Array (Option Value)} {oc_areWays kV_areWays dc_areWays pm_areWays cd_areWays ct_areWays : Value}
    {f_isEdit : Addr} {od_isEdit an_isEdit : Option Addr} {sl_isEdit : Array (Option Value)} {oc_isEdit kV_isEdit dc_isEdit pm_isEdit cd_isEdit ct_isEdit : Value}
    {f_edRow : Addr} {od_edRow an_edRow : Option Addr} {sl_edRow : Array (Option Value)} {oc_edRow kV_edRow dc_edRow pm_edRow cd_edRow ct_edRow : Value}
    {f_edKind : Addr} {od_edKind an_edKind : Option Addr} {sl_edKind : Array (Option Value)} {oc_edKind kV_edKind dc_edKind pm_edKind cd_edKind ct_edKind : Value}
    {f_bag : Addr} {od_bag an_bag : Option Addr} {sl_bag : Array (Option Value)} {oc_bag kV_bag dc_bag pm_bag cd_bag ct_bag : Value}
    {f_take : Addr} {od_take an_take : Option Addr} {sl_take : Array (Option Value)} {oc_take kV_take dc_take pm_take cd_take ct_take : Value}
    {f_alike : Addr} {od_alike an_alike : Option Addr} {sl_alike : Array (Option Value)} {oc_alike kV_alike dc_alike pm_alike cd_alike ct_alike : Value}
    {f_mixed : Addr} {od_mixed an_mixed : Option Addr} {sl_mixed : Array (Option Value)} {oc_mixed kV_mixed dc_mixed pm_mixed cd_mixed ct_mixed : Value}
    {f_one : Addr} {od_one an_one : Option Addr} {sl_one : Array (Option Value)} {oc_one kV_one dc_one pm_one cd_one ct_one : Value}
    {f_allWays : Addr} {od_allWays an_allWays : Option Addr} {sl_allWays : Array (Option Value)} {oc_allWays kV_allWays dc_allWays pm_allWays cd_allWays ct_allWays : Value}
    {f_bow : Addr} {od_bow an_bow : Option Addr} {sl_bow : Array (Option Value)} {oc_bow kV_bow dc_bow pm_bow cd_bow ct_bow : Value}
    {f_bows : Addr} {od_bows an_bows : Option Addr} {sl_bows : Array (Option Value)} {oc_bows kV_bows dc_bows pm_bows cd_bows ct_bows : Value}
    {f_spread : Addr} {od_spread an_spread : Option Addr} {sl_spread : Array (Option Value)} {oc_spread kV_spread dc_spread pm_spread cd_spread ct_spread : Value}
    {f_waysDrawn : Addr} {od_waysDrawn an_waysDrawn : Option Addr} {sl_waysDrawn : Array (Option Value)} {oc_waysDrawn kV_waysDrawn dc_waysDrawn pm_waysDrawn cd_waysDrawn ct_waysDrawn : Value}
    {f_other : Addr} {od_other an_other : Option Addr} {sl_other : Array (Option Value)} {oc_other kV_other dc_other pm_other cd_other ct_other : Value}
    {f_drawnBows : Addr} {od_drawnBows an_drawnBows : Option Addr} {sl_drawnBows : Array (Option Value)} {oc_drawnBows kV_drawnBows dc_drawnBows pm_drawnBows cd_drawnBows ct_drawnBows : Value}
    {f_edits : Addr} {od_edits an_edits : Option Addr} {sl_edits : Array (Option Value)} {oc_edits kV_edits dc_edits pm_edits cd_edits ct_edits : Value}
    {f_face : Addr} {od_face an_face : Option Addr} {sl_face : Array (Option Value)} {oc_face kV_face dc_face pm_face cd_face ct_face : Value}
    {f_turned : Addr} {od_turned an_turned : Option Addr} {sl_turned : Array (Option Value)} {oc_turned kV_turned dc_turned pm_turned cd_turned ct_turned : Value}
    {f_done : Addr} {od_done an_done : Option Addr} {sl_done : Array (Option Value)} {oc_done kV_done dc_done pm_done cd_done ct_done : Value}
    {f_equals : Addr} {od_equals an_equals : Option Addr} {sl_equals : Array (Option Value)} {oc_equals kV_equals dc_equals pm_equals cd_equals ct_equals : Value}
    {f_through : Addr} {od_through an_through : Option Addr} {sl_through : Array (Option Value)} {oc_through kV_through dc_through pm_through cd_through ct_through : Value}
    {f_copyR : Addr} {od_copyR an_copyR : Option Addr} {sl_copyR : Array (Option Value)} {oc_copyR kV_copyR dc_copyR pm_copyR cd_copyR ct_copyR : Value}
    {f_lastR : Addr} {od_lastR an_lastR : Option Addr} {sl_lastR : Array (Option Value)} {oc_lastR kV_lastR dc_lastR pm_lastR cd_lastR ct_lastR : Value}
    {f_kInit : Addr} {od_kInit an_kInit : Option Addr} {sl_kInit : Array (Option Value)} {oc_kInit kV_kInit dc_kInit pm_kInit cd_kInit ct_kInit : Value}
    {f_kWays : Addr} {od_kWays an_kWays : Option Addr} {sl_kWays : Array (Option Value)} {oc_kWays kV_kWays dc_kWays pm_kWays cd_kWays ct_kWays : Value}
    {f_kTurned : Addr} {od_kTurned an_kTurned : Option Addr} {sl_kTurned : Array (Option Value)} {oc_kTurned kV_kTurned dc_kTurned pm_kTurned cd_kTurned ct_kTurned : Value}
    {f_kHas : Addr} {od_kHas an_kHas : Option Addr} {sl_kHas : Array (Option Value)} {oc_kHas kV_kHas dc_kHas pm_kHas cd_kHas ct_kHas : Value}
    {f_kOr : Addr} {od_kOr an_kOr : Option Addr} {sl_kOr : Array (Option Value)} {oc_kOr kV_kOr dc_kOr pm_kOr cd_kOr ct_kOr : Value}
    {f_kSub : Addr} {od_kSub an_kSub : Option Addr} {sl_kSub : Array (Option Value)} {oc_kSub kV_kSub dc_kSub pm_kSub cd_kSub ct_kSub : Value}
    {f_kEq : Addr} {od_kEq an_kEq : Option Addr} {sl_kEq : Array (Option Value)} {oc_kEq kV_kEq dc_kEq pm_kEq cd_kEq ct_kEq : Value}
    {f_rInit : Addr} {od_rInit an_rInit : Option Addr} {sl_rInit : Array (Option Value)} {oc_rInit kV_rInit dc_rInit pm_rInit cd_rInit ct_rInit : Value}
    {f_rBows : Addr} {od_rBows an_rBows : Option Addr} {sl_rBows : Array (Option Value)} {oc_rBows kV_rBows dc_rBows pm_rBows cd_rBows ct_rBows : Value}
    {f_rPut : Addr} {od_rPut an_rPut : Option Addr} {sl_rPut : Array (Option Value)} {oc_rPut kV_rPut dc_rPut pm_rPut cd_rPut ct_rPut : Value}
    {f_rTurned : Addr} {od_rTurned an_rTurned : Option Addr} {sl_rTurned : Array (Option Value)} {oc_rTurned kV_rTurned dc_rTurned pm_rTurned cd_rTurned ct_rTurned : Value}
    {f_rEq : Addr} {od_rEq an_rEq : Option Addr} {sl_rEq : Array (Option Value)} {oc_rEq kV_rEq dc_rEq pm_rEq cd_rEq ct_rEq : Value}
    {f_bInit : Addr} {od_bInit an_bInit : Option Addr} {sl_bInit : Array (Option Value)} {oc_bInit kV_bInit dc_bInit pm_bInit cd_bInit ct_bInit : Value}
    {f_bRow : Addr} {od_bRow an_bRow : Option Addr} {sl_bRow : Array (Option Value)} {oc_bRow kV_bRow dc_bRow pm_bRow cd_bRow ct_bRow : Value}
    {p_bRow : Addr} {rs_bRow : List Value}
    {f_bKind : Addr} {od_bKind an_bKind : Option Addr} {sl_bKind : Array (Option Value)} {oc_bKind kV_bKind dc_bKind pm_bKind cd_bKind ct_bKind : Value}
    {p_bKind : Addr} {rs_bKind : List Value}
    {f_bDo : Addr} {od_bDo an_bDo : Option Addr} {sl_bDo : Array (Option Value)} {oc_bDo kV_bDo dc_bDo pm_bDo cd_bDo ct_bDo : Value}
    {f_bBack : Addr} {od_bBack an_bBack : Option Addr} {sl_bBack : Array (Option Value)} {oc_bBack kV_bBack dc_bBack pm_bBack cd_bBack ct_bBack : Value}
    {f_bAgain : Addr} {od_bAgain an_bAgain : Option Addr} {sl_bAgain : Array (Option Value)} {oc_bAgain kV_bAgain dc_bAgain pm_bAgain cd_bAgain ct_bAgain : Value}
    {f_bLog : Addr} {od_bLog an_bLog : Option Addr} {sl_bLog : Array (Option Value)} {oc_bLog kV_bLog dc_bLog pm_bLog cd_bLog ct_bLog : Value}
    {f_bCopied : Addr} {od_bCopied an_bCopied : Option Addr} {sl_bCopied : Array (Option Value)} {oc_bCopied kV_bCopied dc_bCopied pm_bCopied cd_bCopied ct_bCopied : Value}
    {f_bLen : Addr} {od_bLen an_bLen : Option Addr} {sl_bLen : Array (Option Value)} {oc_bLen kV_bLen dc_bLen pm_bLen cd_bLen ct_bLen : Value}
    {f_bEq : Addr} {od_bEq an_bEq : Option Addr} {sl_bEq : Array (Option Value)} {oc_bEq kV_bEq dc_bEq pm_bEq cd_bEq ct_bEq : Value}
    (z_bool : PySem.W.nsIn K mainGlobals "bool" = some none)
    (z_int : PySem.W.nsIn K mainGlobals "int" = some none)
    (z_isinstance : PySem.W.nsIn K mainGlobals "isinstance" = some none)
    (z_list : PySem.W.nsIn K mainGlobals "list" = some none)
    (z_tuple : PySem.W.nsIn K mainGlobals "tuple" = some none)
    (z_all : PySem.W.nsIn K mainGlobals "all" = some none)
    (z_str : PySem.W.nsIn K mainGlobals "str" = some none)
    (z_sorted : PySem.W.nsIn K mainGlobals "sorted" = some none)
    (z_set : PySem.W.nsIn K mainGlobals "set" = some none)
    (z_len : PySem.W.nsIn K mainGlobals "len" = some none)
    (z_range : PySem.W.nsIn K mainGlobals "range" = some none)
    (z_abs : PySem.W.nsIn K mainGlobals "abs" = some none)
    (z_repr : PySem.W.nsIn K mainGlobals "repr" = some none)
    (aKind : PySem.W.nsIn K mainGlobals "Kind" = some (some (.ref C_Kind)))
    (pgKind : PySem.W.plainGet K C_Kind Str.empty = true)
    (hdKind : PySem.W.hasDictIn K C_Kind = true)
    (poKind : PySem.W.plainOver K C_Kind = true)
    (saKind : PySem.W.findIn K (.ref C_Kind) "__setattr__" = some (some (.builtin "object.__setattr__")))
    (mkKind : PySem.W.makesIn K C_Kind = true)
    (kcKind : PySem.W.keepIn K (.ref C_Kind) = true)
    (c1Kind : PySem.W.findIn K (.ref C_Kind) "__class__" = some (some (.builtin "object.__class__")))
    (obKind : PySem.W.mroIn K C_Kind (.type "object") = some true)
    (n_its_ways : PySem.W.findIn K (.ref C_Kind) "its_ways" = some none)
    (aRow : PySem.W.nsIn K mainGlobals "Row" = some (some (.ref C_Row)))
    (pgRow : PySem.W.plainGet K C_Row Str.empty = true)
    (hdRow : PySem.W.hasDictIn K C_Row = true)
    (poRow : PySem.W.plainOver K C_Row = true)
    (saRow : PySem.W.findIn K (.ref C_Row) "__setattr__" = some (some (.builtin "object.__setattr__")))
    (mkRow : PySem.W.makesIn K C_Row = true)
    (kcRow : PySem.W.keepIn K (.ref C_Row) = true)
    (c1Row : PySem.W.findIn K (.ref C_Row) "__class__" = some (some (.builtin "object.__class__")))
    (obRow : PySem.W.mroIn K C_Row (.type "object") = some true)
    (n_its_bows : PySem.W.findIn K (.ref C_Row) "its_bows" = some none)
    (aBook : PySem.W.nsIn K mainGlobals "Book" = some (some (.ref C_Book)))
    (pgBook : PySem.W.plainGet K C_Book Str.empty = true)
    (hdBook : PySem.W.hasDictIn K C_Book = true)
    (poBook : PySem.W.plainOver K C_Book = true)
    (saBook : PySem.W.findIn K (.ref C_Book) "__setattr__" = some (some (.builtin "object.__setattr__")))
    (mkBook : PySem.W.makesIn K C_Book = true)
    (kcBook : PySem.W.keepIn K (.ref C_Book) = true)
    (c1Book : PySem.W.findIn K (.ref C_Book) "__class__" = some (some (.builtin "object.__class__")))
    (obBook : PySem.W.mroIn K C_Book (.type "object") = some true)
    (n_its_states : PySem.W.findIn K (.ref C_Book) "its_states" = some none)
    (n_its_edits : PySem.W.findIn K (.ref C_Book) "its_edits" = some none)
    (n_its_undone : PySem.W.findIn K (.ref C_Book) "its_undone" = some none)
    (oc2 : PySem.W.specialIn K (.builtin "object.__class__") "__get__" = some (some (.builtin "getset_descriptor.__get__")))
    (oc3 : PySem.W.takesIn K (.builtin "object.__class__") = some true)
    (first : PySem.W.selfFirst K C_Kind = true)
    (ne1 : PySem.W.findIn K (.ref C_Book) "__ne__" = some (some (.builtin "object.__ne__")))
    (nf1 : PySem.W.notFirst K C_Book (.ref C_Book) = true)
    (nf2 : PySem.W.notFirst K C_Book (.type "list") = true)
    (nf3 : PySem.W.notFirst K C_Book (.type "NoneType") = true)
    (nf4 : PySem.W.notFirst K C_Row (.ref C_Row) = true)
    (nf5 : PySem.W.notFirst K C_Kind (.ref C_Kind) = true)
    (tyB : PySem.W.typeIn K (.ref C_Book) = some (.type "type"))
    (sl : PySem.W.subIn K (.type "list") (.ref C_Book) = some false)
    (sn : PySem.W.subIn K (.type "NoneType") (.ref C_Book) = some false)
    (most : PySem.W.nsIn K mainGlobals "MOST_PLACE" = some (some (.int 1000000000000000000000000000000 tM)))
    (mWays : PySem.W.nsIn K mainGlobals "WAYS" = some (some (.ref ways)))
    (lWays : K.lookup ways = some ⟨.type "tuple", ddW, .seq itW nW, slW⟩)
    (vWays : Vals [.str "apart", .str "begun", .str "chained", .str "crossing", .str "ended", .str "same", .str "within"] itW.toList)
    (sWays : itW.size ≤ sizeLine)
    (mLens : PySem.W.nsIn K mainGlobals "LENGTHS" = some (some (.ref lens)))
    (vLens : He.dicW K lens = some (He.keysIn w.params ["put", "out", "bow", "row", "let", "bar", "turn"]))
    (len1 : PySem.W.nsIn K lens "put" = some (some (.int 2 t1)))
    (len2 : PySem.W.nsIn K lens "row" = some (some (.int 2 t2)))
    (len3 : PySem.W.nsIn K lens "let" = some (some (.int 2 t3)))
    (len4 : PySem.W.nsIn K lens "bar" = some (some (.int 2 t4)))
    (len5 : PySem.W.nsIn K lens "turn" = some (some (.int 1 t5)))
    (mErr : PySem.W.nsIn K mainGlobals "BowError" = some (some (.ref cErr)))
    (mNot : PySem.W.nsIn K mainGlobals "Nothing" = some (some (.ref cNot)))
    (xNot : PySem.W.excIn K cNot [.type "ValueError", .type "Exception", .type "BaseException", .type "object"] "ValueError.__new__" = true)
    (kNot : PySem.W.keepIn K (.ref cNot) = true)
    (bNot : PySem.W.subIn K (.ref cNot) (.type "BaseException") = some true)
    (tNot : PySem.W.typeIn K (.ref cNot) = some (.type "type"))
    (b1 : PySem.W.subIn K (.ref cErr) (.type "BaseException") = some true)
    (b2 : PySem.W.hasDictIn K cErr = true)
    (b3 : PySem.W.typeIn K (.ref cErr) = some (.type "type"))
    (b4 : PySem.W.subIn K (.ref cNot) (.ref cErr) = some true)
    (e1 : PySem.W.findIn K (.ref cNot) "__getattribute__" = some (some (.builtin "BaseException.__getattribute__")))
    (e2 : PySem.W.findIn K (.ref cNot) "__getattr__" = some none)
    (e4 : PySem.W.hasDictIn K cNot = true)
    (e5 : PySem.W.findIn K (.ref cNot) "__class__" = some (some (.builtin "object.__class__")))
    (e8 : PySem.W.mroIn K cNot (.type "object") = some true)
    (a_turnedBow : PySem.W.nsIn K mainGlobals "turned_bow" = some (some (.ref f_turnedBow)))
    (l_turnedBow : K.lookup f_turnedBow = some ⟨oc_turnedBow, od_turnedBow, .func (PySem.W.fnOf "turned_bow" "turned_bow" (defArgs s_turnedBow) (defBody s_turnedBow) (defScope s_turnedBow) .none kV_turnedBow dc_turnedBow pm_turnedBow an_turnedBow cd_turnedBow ct_turnedBow), sl_turnedBow⟩)
    (c_turnedBow : PySem.W.codeIn K cd_turnedBow "turned_bow" = true)
    (k_turnedBow : PySem.W.keepIn K (.ref f_turnedBow) = true)
    (a_isInteger : PySem.W.nsIn K mainGlobals "is_integer" = some (some (.ref f_isInteger)))
    (l_isInteger : K.lookup f_isInteger = some ⟨oc_isInteger, od_isInteger, .func (PySem.W.fnOf "is_integer" "is_integer" (defArgs s_isInteger) (defBody s_isInteger) (defScope s_isInteger) .none kV_isInteger dc_isInteger pm_isInteger an_isInteger cd_isInteger ct_isInteger), sl_isInteger⟩)
    (c_isInteger : PySem.W.codeIn K cd_isInteger "is_integer" = true)
    (k_isInteger : PySem.W.keepIn K (.ref f_isInteger) = true)
    (a_isPlace : PySem.W.nsIn K mainGlobals "is_place" = some (some (.ref f_isPlace)))
    (l_isPlace : K.lookup f_isPlace = some ⟨oc_isPlace, od_isPlace, .func (PySem.W.fnOf "is_place" "is_place" (defArgs s_isPlace) (defBody s_isPlace) (defScope s_isPlace) .none kV_isPlace dc_isPlace pm_isPlace an_isPlace cd_isPlace ct_isPlace), sl_isPlace⟩)
    (c_isPlace : PySem.W.codeIn K cd_isPlace "is_place" = true)
    (k_isPlace : PySem.W.keepIn K (.ref f_isPlace) = true)
    (a_isBow : PySem.W.nsIn K mainGlobals "is_bow" = some (some (.ref f_isBow)))
    (l_isBow : K.lookup f_isBow = some ⟨oc_isBow, od_isBow, .func (PySem.W.fnOf "is_bow" "is_bow" (defArgs s_isBow) (defBody s_isBow) (defScope s_isBow) .none kV_isBow dc_isBow pm_isBow an_isBow cd_isBow ct_isBow), sl_isBow⟩)
    (c_isBow : PySem.W.codeIn K cd_isBow "is_bow" = true)
    (k_isBow : PySem.W.keepIn K (.ref f_isBow) = true)
    (a_areBows : PySem.W.nsIn K mainGlobals "are_bows" = some (some (.ref f_areBows)))
    (l_areBows : K.lookup f_areBows = some ⟨oc_areBows, od_areBows, .func (PySem.W.fnOf "are_bows" "are_bows" (defArgs s_areBows) (defBody s_areBows) (defScope s_areBows) .none kV_areBows dc_areBows pm_areBows an_areBows cd_areBows ct_areBows), sl_areBows⟩)
    (c_areBows : PySem.W.codeIn K cd_areBows "are_bows" = true)
    (k_areBows : PySem.W.keepIn K (.ref f_areBows) = true)
    (a_isWay : PySem.W.nsIn K mainGlobals "is_way" = some (some (.ref f_isWay)))
    (l_isWay : K.lookup f_isWay = some ⟨oc_isWay, od_isWay, .func (PySem.W.fnOf "is_way" "is_way" (defArgs s_isWay) (defBody s_isWay) (defScope s_isWay) .none kV_isWay dc_isWay pm_isWay an_isWay cd_isWay ct_isWay), sl_isWay⟩)
    (c_isWay : PySem.W.codeIn K cd_isWay "is_way" = true)
    (k_isWay : PySem.W.keepIn K (.ref f_isWay) = true)
    (a_areWays : PySem.W.nsIn K mainGlobals "are_ways" = some (some (.ref f_areWays)))
    (l_areWays : K.lookup f_areWays = some ⟨oc_areWays, od_areWays, .func (PySem.W.fnOf "are_ways" "are_ways" (defArgs s_areWays) (defBody s_areWays) (defScope s_areWays) .none kV_areWays dc_areWays pm_areWays an_areWays cd_areWays ct_areWays), sl_areWays⟩)
    (c_areWays : PySem.W.codeIn K cd_areWays "are_ways" = true)
    (k_areWays : PySem.W.keepIn K (.ref f_areWays) = true)
    (a_isEdit : PySem.W.nsIn K mainGlobals "is_edit" = some (some (.ref f_isEdit)))
    (l_isEdit : K.lookup f_isEdit = some ⟨oc_isEdit, od_isEdit, .func (PySem.W.fnOf "is_edit" "is_edit" (defArgs s_isEdit) (defBody s_isEdit) (defScope s_isEdit) .none kV_isEdit dc_isEdit pm_isEdit an_isEdit cd_isEdit ct_isEdit), sl_isEdit⟩)
    (c_isEdit : PySem.W.codeIn K cd_isEdit "is_edit" = true)
    (k_isEdit : PySem.W.keepIn K (.ref f_isEdit) = true)
    (a_edRow : PySem.W.nsIn K mainGlobals "edited_row" = some (some (.ref f_edRow)))
    (l_edRow : K.lookup f_edRow = some ⟨oc_edRow, od_edRow, .func (PySem.W.fnOf "edited_row" "edited_row" (defArgs s_edRow) (defBody s_edRow) (defScope s_edRow) .none kV_edRow dc_edRow pm_edRow an_edRow cd_edRow ct_edRow), sl_edRow⟩)
    (c_edRow : PySem.W.codeIn K cd_edRow "edited_row" = true)
    (k_edRow : PySem.W.keepIn K (.ref f_edRow) = true)
    (a_edKind : PySem.W.nsIn K mainGlobals "edited_kind" = some (some (.ref f_edKind)))
    (l_edKind : K.lookup f_edKind = some ⟨oc_edKind, od_edKind, .func (PySem.W.fnOf "edited_kind" "edited_kind" (defArgs s_edKind) (defBody s_edKind) (defScope s_edKind) .none kV_edKind dc_edKind pm_edKind an_edKind cd_edKind ct_edKind), sl_edKind⟩)
    (c_edKind : PySem.W.codeIn K cd_edKind "edited_kind" = true)
    (k_edKind : PySem.W.keepIn K (.ref f_edKind) = true)
    (a_bag : PySem.W.nsIn K mainGlobals "_law_bag" = some (some (.ref f_bag)))
    (l_bag : K.lookup f_bag = some ⟨oc_bag, od_bag, .func (PySem.W.fnOf "_law_bag" "_law_bag" (defArgs s_bag) (defBody s_bag) (defScope s_bag) .none kV_bag dc_bag pm_bag an_bag cd_bag ct_bag), sl_bag⟩)
    (c_bag : PySem.W.codeIn K cd_bag "_law_bag" = true)
    (k_bag : PySem.W.keepIn K (.ref f_bag) = true)
    (a_take : PySem.W.nsIn K mainGlobals "_law_take" = some (some (.ref f_take)))
    (l_take : K.lookup f_take = some ⟨oc_take, od_take, .func (PySem.W.fnOf "_law_take" "_law_take" (defArgs s_take) (defBody s_take) (defScope s_take) .none kV_take dc_take pm_take an_take cd_take ct_take), sl_take⟩)
    (c_take : PySem.W.codeIn K cd_take "_law_take" = true)
    (k_take : PySem.W.keepIn K (.ref f_take) = true)
    (a_alike : PySem.W.nsIn K mainGlobals "_law_alike" = some (some (.ref f_alike)))
    (l_alike : K.lookup f_alike = some ⟨oc_alike, od_alike, .func (PySem.W.fnOf "_law_alike" "_law_alike" (defArgs s_alike) (defBody s_alike) (defScope s_alike) .none kV_alike dc_alike pm_alike an_alike cd_alike ct_alike), sl_alike⟩)
    (c_alike : PySem.W.codeIn K cd_alike "_law_alike" = true)
    (k_alike : PySem.W.keepIn K (.ref f_alike) = true)
    (a_mixed : PySem.W.nsIn K mainGlobals "_law_mixed" = some (some (.ref f_mixed)))
    (l_mixed : K.lookup f_mixed = some ⟨oc_mixed, od_mixed, .func (PySem.W.fnOf "_law_mixed" "_law_mixed" (defArgs s_mixed) (defBody s_mixed) (defScope s_mixed) .none kV_mixed dc_mixed pm_mixed an_mixed cd_mixed ct_mixed), sl_mixed⟩)
    (c_mixed : PySem.W.codeIn K cd_mixed "_law_mixed" = true)
    (k_mixed : PySem.W.keepIn K (.ref f_mixed) = true)
    (a_one : PySem.W.nsIn K mainGlobals "_law_one" = some (some (.ref f_one)))
    (l_one : K.lookup f_one = some ⟨oc_one, od_one, .func (PySem.W.fnOf "_law_one" "_law_one" (defArgs s_one) (defBody s_one) (defScope s_one) .none kV_one dc_one pm_one an_one cd_one ct_one), sl_one⟩)
    (c_one : PySem.W.codeIn K cd_one "_law_one" = true)
    (k_one : PySem.W.keepIn K (.ref f_one) = true)
    (a_allWays : PySem.W.nsIn K mainGlobals "_law_all_ways" = some (some (.ref f_allWays)))
    (l_allWays : K.lookup f_allWays = some ⟨oc_allWays, od_allWays, .func (PySem.W.fnOf "_law_all_ways" "_law_all_ways" (defArgs s_allWays) (defBody s_allWays) (defScope s_allWays) .none kV_allWays dc_allWays pm_allWays an_allWays cd_allWays ct_allWays), sl_allWays⟩)
    (c_allWays : PySem.W.codeIn K cd_allWays "_law_all_ways" = true)
    (k_allWays : PySem.W.keepIn K (.ref f_allWays) = true)
    (a_bow : PySem.W.nsIn K mainGlobals "_law_bow" = some (some (.ref f_bow)))
    (l_bow : K.lookup f_bow = some ⟨oc_bow, od_bow, .func (PySem.W.fnOf "_law_bow" "_law_bow" (defArgs s_bow) (defBody s_bow) (defScope s_bow) .none kV_bow dc_bow pm_bow an_bow cd_bow ct_bow), sl_bow⟩)
    (c_bow : PySem.W.codeIn K cd_bow "_law_bow" = true)
    (k_bow : PySem.W.keepIn K (.ref f_bow) = true)
    (a_bows : PySem.W.nsIn K mainGlobals "_law_bows" = some (some (.ref f_bows)))
    (l_bows : K.lookup f_bows = some ⟨oc_bows, od_bows, .func (PySem.W.fnOf "_law_bows" "_law_bows" (defArgs s_bows) (defBody s_bows) (defScope s_bows) .none kV_bows dc_bows pm_bows an_bows cd_bows ct_bows), sl_bows⟩)
    (c_bows : PySem.W.codeIn K cd_bows "_law_bows" = true)
    (k_bows : PySem.W.keepIn K (.ref f_bows) = true)
    (a_spread : PySem.W.nsIn K mainGlobals "_law_spread" = some (some (.ref f_spread)))
    (l_spread : K.lookup f_spread = some ⟨oc_spread, od_spread, .func (PySem.W.fnOf "_law_spread" "_law_spread" (defArgs s_spread) (defBody s_spread) (defScope s_spread) .none kV_spread dc_spread pm_spread an_spread cd_spread ct_spread), sl_spread⟩)
    (c_spread : PySem.W.codeIn K cd_spread "_law_spread" = true)
    (k_spread : PySem.W.keepIn K (.ref f_spread) = true)
    (a_waysDrawn : PySem.W.nsIn K mainGlobals "_law_ways_drawn" = some (some (.ref f_waysDrawn)))
    (l_waysDrawn : K.lookup f_waysDrawn = some ⟨oc_waysDrawn, od_waysDrawn, .func (PySem.W.fnOf "_law_ways_drawn" "_law_ways_drawn" (defArgs s_waysDrawn) (defBody s_waysDrawn) (defScope s_waysDrawn) .none kV_waysDrawn dc_waysDrawn pm_waysDrawn an_waysDrawn cd_waysDrawn ct_waysDrawn), sl_waysDrawn⟩)
    (c_waysDrawn : PySem.W.codeIn K cd_waysDrawn "_law_ways_drawn" = true)
    (k_waysDrawn : PySem.W.keepIn K (.ref f_waysDrawn) = true)
    (a_other : PySem.W.nsIn K mainGlobals "_law_other" = some (some (.ref f_other)))
    (l_other : K.lookup f_other = some ⟨oc_other, od_other, .func (PySem.W.fnOf "_law_other" "_law_other" (defArgs s_other) (defBody s_other) (defScope s_other) .none kV_other dc_other pm_other an_other cd_other ct_other), sl_other⟩)
    (c_other : PySem.W.codeIn K cd_other "_law_other" = true)
    (k_other : PySem.W.keepIn K (.ref f_other) = true)
    (a_drawnBows : PySem.W.nsIn K mainGlobals "_law_drawn_bows" = some (some (.ref f_drawnBows)))
    (l_drawnBows : K.lookup f_drawnBows = some ⟨oc_drawnBows, od_drawnBows, .func (PySem.W.fnOf "_law_drawn_bows" "_law_drawn_bows" (defArgs s_drawnBows) (defBody s_drawnBows) (defScope s_drawnBows) .none kV_drawnBows dc_drawnBows pm_drawnBows an_drawnBows cd_drawnBows ct_drawnBows), sl_drawnBows⟩)
    (c_drawnBows : PySem.W.codeIn K cd_drawnBows "_law_drawn_bows" = true)
    (k_drawnBows : PySem.W.keepIn K (.ref f_drawnBows) = true)
    (a_edits : PySem.W.nsIn K mainGlobals "_law_edits" = some (some (.ref f_edits)))
    (l_edits : K.lookup f_edits = some ⟨oc_edits, od_edits, .func (PySem.W.fnOf "_law_edits" "_law_edits" (defArgs s_edits) (defBody s_edits) (defScope s_edits) .none kV_edits dc_edits pm_edits an_edits cd_edits ct_edits), sl_edits⟩)
    (c_edits : PySem.W.codeIn K cd_edits "_law_edits" = true)
    (k_edits : PySem.W.keepIn K (.ref f_edits) = true)
    (a_face : PySem.W.nsIn K mainGlobals "_law_face" = some (some (.ref f_face)))
    (l_face : K.lookup f_face = some ⟨oc_face, od_face, .func (PySem.W.fnOf "_law_face" "_law_face" (defArgs s_face) (defBody s_face) (defScope s_face) .none kV_face dc_face pm_face an_face cd_face ct_face), sl_face⟩)
    (c_face : PySem.W.codeIn K cd_face "_law_face" = true)
    (k_face : PySem.W.keepIn K (.ref f_face) = true)
    (a_turned : PySem.W.nsIn K mainGlobals "_law_turned" = some (some (.ref f_turned)))
    (l_turned : K.lookup f_turned = some ⟨oc_turned, od_turned, .func (PySem.W.fnOf "_law_turned" "_law_turned" (defArgs s_turned) (defBody s_turned) (defScope s_turned) .none kV_turned dc_turned pm_turned an_turned cd_turned ct_turned), sl_turned⟩)
    (c_turned : PySem.W.codeIn K cd_turned "_law_turned" = true)
    (k_turned : PySem.W.keepIn K (.ref f_turned) = true)
    (a_done : PySem.W.nsIn K mainGlobals "_law_done" = some (some (.ref f_done)))
    (l_done : K.lookup f_done = some ⟨oc_done, od_done, .func (PySem.W.fnOf "_law_done" "_law_done" (defArgs s_done) (defBody s_done) (defScope s_done) .none kV_done dc_done pm_done an_done cd_done ct_done), sl_done⟩)
    (c_done : PySem.W.codeIn K cd_done "_law_done" = true)
    (k_done : PySem.W.keepIn K (.ref f_done) = true)
    (a_equals : PySem.W.nsIn K mainGlobals "_law_equals_right" = some (some (.ref f_equals)))
    (l_equals : K.lookup f_equals = some ⟨oc_equals, od_equals, .func (PySem.W.fnOf "_law_equals_right" "_law_equals_right" (defArgs s_equals) (defBody s_equals) (defScope s_equals) .none kV_equals dc_equals pm_equals an_equals cd_equals ct_equals), sl_equals⟩)
    (c_equals : PySem.W.codeIn K cd_equals "_law_equals_right" = true)
    (k_equals : PySem.W.keepIn K (.ref f_equals) = true)
    (a_through : PySem.W.nsIn K mainGlobals "_law_through_right" = some (some (.ref f_through)))
    (l_through : K.lookup f_through = some ⟨oc_through, od_through, .func (PySem.W.fnOf "_law_through_right" "_law_through_right" (defArgs s_through) (defBody s_through) (defScope s_through) .none kV_through dc_through pm_through an_through cd_through ct_through), sl_through⟩)
    (c_through : PySem.W.codeIn K cd_through "_law_through_right" = true)
    (k_through : PySem.W.keepIn K (.ref f_through) = true)
    (a_copyR : PySem.W.nsIn K mainGlobals "_law_copy_right" = some (some (.ref f_copyR)))
    (l_copyR : K.lookup f_copyR = some ⟨oc_copyR, od_copyR, .func (PySem.W.fnOf "_law_copy_right" "_law_copy_right" (defArgs s_copyR) (defBody s_copyR) (defScope s_copyR) .none kV_copyR dc_copyR pm_copyR an_copyR cd_copyR ct_copyR), sl_copyR⟩)
    (c_copyR : PySem.W.codeIn K cd_copyR "_law_copy_right" = true)
    (k_copyR : PySem.W.keepIn K (.ref f_copyR) = true)
    (a_lastR : PySem.W.nsIn K mainGlobals "_law_last_right" = some (some (.ref f_lastR)))
    (l_lastR : K.lookup f_lastR = some ⟨oc_lastR, od_lastR, .func (PySem.W.fnOf "_law_last_right" "_law_last_right" (defArgs s_lastR) (defBody s_lastR) (defScope s_lastR) .none kV_lastR dc_lastR pm_lastR an_lastR cd_lastR ct_lastR), sl_lastR⟩)
    (c_lastR : PySem.W.codeIn K cd_lastR "_law_last_right" = true)
    (k_lastR : PySem.W.keepIn K (.ref f_lastR) = true)
    (a_kInit : PySem.W.findIn K (.ref C_Kind) "__init__" = some (some (.ref f_kInit)))
    (i_kInit : PySem.W.isFn K (.ref f_kInit) = true)
    (l_kInit : K.lookup f_kInit = some ⟨oc_kInit, od_kInit, .func (PySem.W.fnOf "__init__" "Kind.__init__" (defArgs s_kInit) (defBody s_kInit) (defScope s_kInit) .none kV_kInit dc_kInit pm_kInit an_kInit cd_kInit ct_kInit), sl_kInit⟩)
    (c_kInit : PySem.W.codeIn K cd_kInit "Kind.__init__" = true)
    (k_kInit : PySem.W.keepIn K (.ref f_kInit) = true)
    (a_kWays : PySem.W.findIn K (.ref C_Kind) "ways" = some (some (.ref f_kWays)))
    (i_kWays : PySem.W.isFn K (.ref f_kWays) = true)
    (l_kWays : K.lookup f_kWays = some ⟨oc_kWays, od_kWays, .func (PySem.W.fnOf "ways" "Kind.ways" (defArgs s_kWays) (defBody s_kWays) (defScope s_kWays) .none kV_kWays dc_kWays pm_kWays an_kWays cd_kWays ct_kWays), sl_kWays⟩)
    (c_kWays : PySem.W.codeIn K cd_kWays "Kind.ways" = true)
    (k_kWays : PySem.W.keepIn K (.ref f_kWays) = true)
    (a_kTurned : PySem.W.findIn K (.ref C_Kind) "turned" = some (some (.ref f_kTurned)))
    (i_kTurned : PySem.W.isFn K (.ref f_kTurned) = true)
    (l_kTurned : K.lookup f_kTurned = some ⟨oc_kTurned, od_kTurned, .func (PySem.W.fnOf "turned" "Kind.turned" (defArgs s_kTurned) (defBody s_kTurned) (defScope s_kTurned) .none kV_kTurned dc_kTurned pm_kTurned an_kTurned cd_kTurned ct_kTurned), sl_kTurned⟩)
    (c_kTurned : PySem.W.codeIn K cd_kTurned "Kind.turned" = true)
    (k_kTurned : PySem.W.keepIn K (.ref f_kTurned) = true)
    (a_kHas : PySem.W.findIn K (.ref C_Kind) "__contains__" = some (some (.ref f_kHas)))
    (i_kHas : PySem.W.isFn K (.ref f_kHas) = true)
    (l_kHas : K.lookup f_kHas = some ⟨oc_kHas, od_kHas, .func (PySem.W.fnOf "__contains__" "Kind.__contains__" (defArgs s_kHas) (defBody s_kHas) (defScope s_kHas) .none kV_kHas dc_kHas pm_kHas an_kHas cd_kHas ct_kHas), sl_kHas⟩)
    (c_kHas : PySem.W.codeIn K cd_kHas "Kind.__contains__" = true)
    (k_kHas : PySem.W.keepIn K (.ref f_kHas) = true)
    (a_kOr : PySem.W.findIn K (.ref C_Kind) "__or__" = some (some (.ref f_kOr)))
    (i_kOr : PySem.W.isFn K (.ref f_kOr) = true)
    (l_kOr : K.lookup f_kOr = some ⟨oc_kOr, od_kOr, .func (PySem.W.fnOf "__or__" "Kind.__or__" (defArgs s_kOr) (defBody s_kOr) (defScope s_kOr) .none kV_kOr dc_kOr pm_kOr an_kOr cd_kOr ct_kOr), sl_kOr⟩)
    (c_kOr : PySem.W.codeIn K cd_kOr "Kind.__or__" = true)
    (k_kOr : PySem.W.keepIn K (.ref f_kOr) = true)
    (a_kSub : PySem.W.findIn K (.ref C_Kind) "__sub__" = some (some (.ref f_kSub)))
    (i_kSub : PySem.W.isFn K (.ref f_kSub) = true)
    (l_kSub : K.lookup f_kSub = some ⟨oc_kSub, od_kSub, .func (PySem.W.fnOf "__sub__" "Kind.__sub__" (defArgs s_kSub) (defBody s_kSub) (defScope s_kSub) .none kV_kSub dc_kSub pm_kSub an_kSub cd_kSub ct_kSub), sl_kSub⟩)
    (c_kSub : PySem.W.codeIn K cd_kSub "Kind.__sub__" = true)
    (k_kSub : PySem.W.keepIn K (.ref f_kSub) = true)
    (a_kEq : PySem.W.findIn K (.ref C_Kind) "__eq__" = some (some (.ref f_kEq)))
    (i_kEq : PySem.W.isFn K (.ref f_kEq) = true)
    (l_kEq : K.lookup f_kEq = some ⟨oc_kEq, od_kEq, .func (PySem.W.fnOf "__eq__" "Kind.__eq__" (defArgs s_kEq) (defBody s_kEq) (defScope s_kEq) .none kV_kEq dc_kEq pm_kEq an_kEq cd_kEq ct_kEq), sl_kEq⟩)
    (c_kEq : PySem.W.codeIn K cd_kEq "Kind.__eq__" = true)
    (k_kEq : PySem.W.keepIn K (.ref f_kEq) = true)
    (a_rInit : PySem.W.findIn K (.ref C_Row) "__init__" = some (some (.ref f_rInit)))
    (i_rInit : PySem.W.isFn K (.ref f_rInit) = true)
    (l_rInit : K.lookup f_rInit = some ⟨oc_rInit, od_rInit, .func (PySem.W.fnOf "__init__" "Row.__init__" (defArgs s_rInit) (defBody s_rInit) (defScope s_rInit) .none kV_rInit dc_rInit pm_rInit an_rInit cd_rInit ct_rInit), sl_rInit⟩)
    (c_rInit : PySem.W.codeIn K cd_rInit "Row.__init__" = true)
    (k_rInit : PySem.W.keepIn K (.ref f_rInit) = true)
    (a_rBows : PySem.W.findIn K (.ref C_Row) "bows" = some (some (.ref f_rBows)))
    (i_rBows : PySem.W.isFn K (.ref f_rBows) = true)
    (l_rBows : K.lookup f_rBows = some ⟨oc_rBows, od_rBows, .func (PySem.W.fnOf "bows" "Row.bows" (defArgs s_rBows) (defBody s_rBows) (defScope s_rBows) .none kV_rBows dc_rBows pm_rBows an_rBows cd_rBows ct_rBows), sl_rBows⟩)
    (c_rBows : PySem.W.codeIn K cd_rBows "Row.bows" = true)
    (k_rBows : PySem.W.keepIn K (.ref f_rBows) = true)
    (a_rPut : PySem.W.findIn K (.ref C_Row) "put" = some (some (.ref f_rPut)))
    (i_rPut : PySem.W.isFn K (.ref f_rPut) = true)
    (l_rPut : K.lookup f_rPut = some ⟨oc_rPut, od_rPut, .func (PySem.W.fnOf "put" "Row.put" (defArgs s_rPut) (defBody s_rPut) (defScope s_rPut) .none kV_rPut dc_rPut pm_rPut an_rPut cd_rPut ct_rPut), sl_rPut⟩)
    (c_rPut : PySem.W.codeIn K cd_rPut "Row.put" = true)
    (k_rPut : PySem.W.keepIn K (.ref f_rPut) = true)
    (a_rTurned : PySem.W.findIn K (.ref C_Row) "turned" = some (some (.ref f_rTurned)))
    (i_rTurned : PySem.W.isFn K (.ref f_rTurned) = true)
    (l_rTurned : K.lookup f_rTurned = some ⟨oc_rTurned, od_rTurned, .func (PySem.W.fnOf "turned" "Row.turned" (defArgs s_rTurned) (defBody s_rTurned) (defScope s_rTurned) .none kV_rTurned dc_rTurned pm_rTurned an_rTurned cd_rTurned ct_rTurned), sl_rTurned⟩)
    (c_rTurned : PySem.W.codeIn K cd_rTurned "Row.turned" = true)
    (k_rTurned : PySem.W.keepIn K (.ref f_rTurned) = true)
    (a_rEq : PySem.W.findIn K (.ref C_Row) "__eq__" = some (some (.ref f_rEq)))
    (i_rEq : PySem.W.isFn K (.ref f_rEq) = true)
    (l_rEq : K.lookup f_rEq = some ⟨oc_rEq, od_rEq, .func (PySem.W.fnOf "__eq__" "Row.__eq__" (defArgs s_rEq) (defBody s_rEq) (defScope s_rEq) .none kV_rEq dc_rEq pm_rEq an_rEq cd_rEq ct_rEq), sl_rEq⟩)
    (c_rEq : PySem.W.codeIn K cd_rEq "Row.__eq__" = true)
    (k_rEq : PySem.W.keepIn K (.ref f_rEq) = true)
    (a_bInit : PySem.W.findIn K (.ref C_Book) "__init__" = some (some (.ref f_bInit)))
    (i_bInit : PySem.W.isFn K (.ref f_bInit) = true)
    (l_bInit : K.lookup f_bInit = some ⟨oc_bInit, od_bInit, .func (PySem.W.fnOf "__init__" "Book.__init__" (defArgs s_bInit) (defBody s_bInit) (defScope s_bInit) .none kV_bInit dc_bInit pm_bInit an_bInit cd_bInit ct_bInit), sl_bInit⟩)
    (c_bInit : PySem.W.codeIn K cd_bInit "Book.__init__" = true)
    (k_bInit : PySem.W.keepIn K (.ref f_bInit) = true)
    (a_bRow : PySem.W.findIn K (.ref C_Book) "row" = some (some (.ref p_bRow)))
    (g_bRow : PySem.W.specialIn K (.ref p_bRow) "__get__" = some (some (.builtin "property.__get__")))
    (t_bRow : PySem.W.takesIn K (.ref p_bRow) = some true)
    (r_bRow : PySem.W.recIn K p_bRow "property" = some (.ref f_bRow :: rs_bRow))
    (l_bRow : K.lookup f_bRow = some ⟨oc_bRow, od_bRow, .func (PySem.W.fnOf "row" "Book.row" (defArgs s_bRow) (defBody s_bRow) (defScope s_bRow) .none kV_bRow dc_bRow pm_bRow an_bRow cd_bRow ct_bRow), sl_bRow⟩)
    (c_bRow : PySem.W.codeIn K cd_bRow "Book.row" = true)
    (k_bRow : PySem.W.keepIn K (.ref f_bRow) = true)
    (a_bKind : PySem.W.findIn K (.ref C_Book) "kind" = some (some (.ref p_bKind)))
    (g_bKind : PySem.W.specialIn K (.ref p_bKind) "__get__" = some (some (.builtin "property.__get__")))
    (t_bKind : PySem.W.takesIn K (.ref p_bKind) = some true)
    (r_bKind : PySem.W.recIn K p_bKind "property" = some (.ref f_bKind :: rs_bKind))
    (l_bKind : K.lookup f_bKind = some ⟨oc_bKind, od_bKind, .func (PySem.W.fnOf "kind" "Book.kind" (defArgs s_bKind) (defBody s_bKind) (defScope s_bKind) .none kV_bKind dc_bKind pm_bKind an_bKind cd_bKind ct_bKind), sl_bKind⟩)
    (c_bKind : PySem.W.codeIn K cd_bKind "Book.kind" = true)
    (k_bKind : PySem.W.keepIn K (.ref f_bKind) = true)
    (a_bDo : PySem.W.findIn K (.ref C_Book) "do" = some (some (.ref f_bDo)))
    (i_bDo : PySem.W.isFn K (.ref f_bDo) = true)
    (l_bDo : K.lookup f_bDo = some ⟨oc_bDo, od_bDo, .func (PySem.W.fnOf "do" "Book.do" (defArgs s_bDo) (defBody s_bDo) (defScope s_bDo) .none kV_bDo dc_bDo pm_bDo an_bDo cd_bDo ct_bDo), sl_bDo⟩)
    (c_bDo : PySem.W.codeIn K cd_bDo "Book.do" = true)
    (k_bDo : PySem.W.keepIn K (.ref f_bDo) = true)
    (a_bBack : PySem.W.findIn K (.ref C_Book) "back" = some (some (.ref f_bBack)))
    (i_bBack : PySem.W.isFn K (.ref f_bBack) = true)
    (l_bBack : K.lookup f_bBack = some ⟨oc_bBack, od_bBack, .func (PySem.W.fnOf "back" "Book.back" (defArgs s_bBack) (defBody s_bBack) (defScope s_bBack) .none kV_bBack dc_bBack pm_bBack an_bBack cd_bBack ct_bBack), sl_bBack⟩)
    (c_bBack : PySem.W.codeIn K cd_bBack "Book.back" = true)
    (k_bBack : PySem.W.keepIn K (.ref f_bBack) = true)
    (a_bAgain : PySem.W.findIn K (.ref C_Book) "again" = some (some (.ref f_bAgain)))
    (i_bAgain : PySem.W.isFn K (.ref f_bAgain) = true)
    (l_bAgain : K.lookup f_bAgain = some ⟨oc_bAgain, od_bAgain, .func (PySem.W.fnOf "again" "Book.again" (defArgs s_bAgain) (defBody s_bAgain) (defScope s_bAgain) .none kV_bAgain dc_bAgain pm_bAgain an_bAgain cd_bAgain ct_bAgain), sl_bAgain⟩)
    (c_bAgain : PySem.W.codeIn K cd_bAgain "Book.again" = true)
    (k_bAgain : PySem.W.keepIn K (.ref f_bAgain) = true)
    (a_bLog : PySem.W.findIn K (.ref C_Book) "log" = some (some (.ref f_bLog)))
    (i_bLog : PySem.W.isFn K (.ref f_bLog) = true)
    (l_bLog : K.lookup f_bLog = some ⟨oc_bLog, od_bLog, .func (PySem.W.fnOf "log" "Book.log" (defArgs s_bLog) (defBody s_bLog) (defScope s_bLog) .none kV_bLog dc_bLog pm_bLog an_bLog cd_bLog ct_bLog), sl_bLog⟩)
    (c_bLog : PySem.W.codeIn K cd_bLog "Book.log" = true)
    (k_bLog : PySem.W.keepIn K (.ref f_bLog) = true)
    (a_bCopied : PySem.W.findIn K (.ref C_Book) "copied" = some (some (.ref f_bCopied)))
    (i_bCopied : PySem.W.isFn K (.ref f_bCopied) = true)
    (l_bCopied : K.lookup f_bCopied = some ⟨oc_bCopied, od_bCopied, .func (PySem.W.fnOf "copied" "Book.copied" (defArgs s_bCopied) (defBody s_bCopied) (defScope s_bCopied) .none kV_bCopied dc_bCopied pm_bCopied an_bCopied cd_bCopied ct_bCopied), sl_bCopied⟩)
    (c_bCopied : PySem.W.codeIn K cd_bCopied "Book.copied" = true)
    (k_bCopied : PySem.W.keepIn K (.ref f_bCopied) = true)
    (a_bLen : PySem.W.findIn K (.ref C_Book) "__len__" = some (some (.ref f_bLen)))
    (i_bLen : PySem.W.isFn K (.ref f_bLen) = true)
    (l_bLen : K.lookup f_bLen = some ⟨oc_bLen, od_bLen, .func (PySem.W.fnOf "__len__" "Book.__len__" (defArgs s_bLen) (defBody s_bLen) (defScope s_bLen) .none kV_bLen dc_bLen pm_bLen an_bLen cd_bLen ct_bLen), sl_bLen⟩)
    (c_bLen : PySem.W.codeIn K cd_bLen "Book.__len__" = true)
    (k_bLen : PySem.W.keepIn K (.ref f_bLen) = true)
    (a_bEq : PySem.W.findIn K (.ref C_Book) "__eq__" = some (some (.ref f_bEq)))
    (i_bEq : PySem.W.isFn K (.ref f_bEq) = true)
    (l_bEq : K.lookup f_bEq = some ⟨oc_bEq, od_bEq, .func (PySem.W.fnOf "__eq__" "Book.__eq__" (defArgs s_bEq) (defBody s_bEq) (defScope s_bEq) .none kV_bEq dc_bEq pm_bEq an_bEq cd_bEq ct_bEq), sl_bEq⟩)
    (c_bEq : PySem.W.codeIn K cd_bEq "Book.__eq__" = true)
    (k_bEq : PySem.W.keepIn K (.ref f_bEq) = true)
    : Nonempty (Txt P w K mg) := by
  have F_turnedBow := fun_mk (st := s_turnedBow) l_turnedBow c_turnedBow k_turnedBow
  have b_turnedBow := F_turnedBow.binds (ps := ["bow"]) (fun _ _ _ _ _ _ us hl => match us, hl with | [_], _ => rfl)
  have F_isInteger := fun_mk (st := s_isInteger) l_isInteger c_isInteger k_isInteger
  have b_isInteger := F_isInteger.binds (ps := ["thing"]) (fun _ _ _ _ _ _ us hl => match us, hl with | [_], _ => rfl)
  have F_isPlace := fun_mk (st := s_isPlace) l_isPlace c_isPlace k_isPlace
  have b_isPlace := F_isPlace.binds (ps := ["thing"]) (fun _ _ _ _ _ _ us hl => match us, hl with | [_], _ => rfl)
  have F_isBow := fun_mk (st := s_isBow) l_isBow c_isBow k_isBow
  have b_isBow := F_isBow.binds (ps := ["thing"]) (fun _ _ _ _ _ _ us hl => match us, hl with | [_], _ => rfl)
  have F_areBows := fun_mk (st := s_areBows) l_areBows c_areBows k_areBows
  have b_areBows := F_areBows.binds (ps := ["thing"]) (fun _ _ _ _ _ _ us hl => match us, hl with | [_], _ => rfl)
  have F_isWay := fun_mk (st := s_isWay) l_isWay c_isWay k_isWay
  have b_isWay := F_isWay.binds (ps := ["thing"]) (fun _ _ _ _ _ _ us hl => match us, hl with | [_], _ => rfl)
  have F_areWays := fun_mk (st := s_areWays) l_areWays c_areWays k_areWays
  have b_areWays := F_areWays.binds (ps := ["thing"]) (fun _ _ _ _ _ _ us hl => match us, hl with | [_], _ => rfl)
  have F_isEdit := fun_mk (st := s_isEdit) l_isEdit c_isEdit k_isEdit
  have b_isEdit := F_isEdit.binds (ps := ["thing"]) (fun _ _ _ _ _ _ us hl => match us, hl with | [_], _ => rfl)
  have F_edRow := fun_mk (st := s_edRow) l_edRow c_edRow k_edRow
  have b_edRow := F_edRow.binds (ps := ["row", "edit"]) (fun _ _ _ _ _ _ us hl => match us, hl with | [_, _], _ => rfl)
  have F_edKind := fun_mk (st := s_edKind) l_edKind c_edKind k_edKind
  have b_edKind := F_edKind.binds (ps := ["kind", "edit"]) (fun _ _ _ _ _ _ us hl => match us, hl with | [_, _], _ => rfl)
  have F_bag := fun_mk (st := s_bag) l_bag c_bag k_bag
  have b_bag := F_bag.binds (ps := ["_law_script"]) (fun _ _ _ _ _ _ us hl => match us, hl with | [_], _ => rfl)
  have F_take := fun_mk (st := s_take) l_take c_take k_take
  have b_take := F_take.binds (ps := ["_law_bag_here", "_law_many"]) (fun _ _ _ _ _ _ us hl => match us, hl with | [_, _], _ => rfl)
  have F_alike := fun_mk (st := s_alike) l_alike c_alike k_alike
  have b_alike := F_alike.binds (ps := ["_law_found", "_law_due"]) (fun _ _ _ _ _ _ us hl => match us, hl with | [_, _], _ => rfl)
  have F_mixed := fun_mk (st := s_mixed) l_mixed c_mixed k_mixed
  have b_mixed := F_mixed.binds (ps := ["_law_bag_here", "_law_things"]) (fun _ _ _ _ _ _ us hl => match us, hl with | [_, _], _ => rfl)
  have F_one := fun_mk (st := s_one) l_one c_one k_one
  have b_one := F_one.binds (ps := ["_law_bag_here", "_law_things"]) (fun _ _ _ _ _ _ us hl => match us, hl with | [_, _], _ => rfl)
  have F_allWays := fun_mk (st := s_allWays) l_allWays c_allWays k_allWays
  have b_allWays := F_allWays.binds (ps := []) (fun _ _ _ _ _ _ us hl => match us, hl with | [], _ => rfl)
  have F_bow := fun_mk (st := s_bow) l_bow c_bow k_bow
  have b_bow := F_bow.binds (ps := ["_law_bag_here", "_law_places"]) (fun _ _ _ _ _ _ us hl => match us, hl with | [_, _], _ => rfl)
  have F_bows := fun_mk (st := s_bows) l_bows c_bows k_bows
  have b_bows := F_bows.binds (ps := ["_law_bag_here", "_law_many", "_law_places"]) (fun _ _ _ _ _ _ us hl => match us, hl with | [_, _, _], _ => rfl)
  have F_spread := fun_mk (st := s_spread) l_spread c_spread k_spread
  have b_spread := F_spread.binds (ps := ["_law_bag_here", "_law_bows_here"]) (fun _ _ _ _ _ _ us hl => match us, hl with | [_, _], _ => rfl)
  have F_waysDrawn := fun_mk (st := s_waysDrawn) l_waysDrawn c_waysDrawn k_waysDrawn
  have b_waysDrawn := F_waysDrawn.binds (ps := ["_law_bag_here"]) (fun _ _ _ _ _ _ us hl => match us, hl with | [_], _ => rfl)
  have F_other := fun_mk (st := s_other) l_other c_other k_other
  have b_other := F_other.binds (ps := ["_law_ways"]) (fun _ _ _ _ _ _ us hl => match us, hl with | [_], _ => rfl)
  have F_drawnBows := fun_mk (st := s_drawnBows) l_drawnBows c_drawnBows k_drawnBows
  have b_drawnBows := F_drawnBows.binds (ps := ["_law_bag_here", "_law_most"]) (fun _ _ _ _ _ _ us hl => match us, hl with | [_, _], _ => rfl)
  have F_edits := fun_mk (st := s_edits) l_edits c_edits k_edits
  have b_edits := F_edits.binds (ps := ["_law_bag_here"]) (fun _ _ _ _ _ _ us hl => match us, hl with | [_], _ => rfl)
  have F_face := fun_mk (st := s_face) l_face c_face k_face
  have b_face := F_face.binds (ps := ["_law_book"]) (fun _ _ _ _ _ _ us hl => match us, hl with | [_], _ => rfl)
  have F_turned := fun_mk (st := s_turned) l_turned c_turned k_turned
  have b_turned := F_turned.binds (ps := ["_law_book", "_law_way"]) (fun _ _ _ _ _ _ us hl => match us, hl with | [_, _], _ => rfl)
  have F_done := fun_mk (st := s_done) l_done c_done k_done
  have b_done := F_done.binds (ps := ["_law_bows_here", "_law_ways", "_law_edits_here"]) (fun _ _ _ _ _ _ us hl => match us, hl with | [_, _, _], _ => rfl)
  have F_equals := fun_mk (st := s_equals) l_equals c_equals k_equals
  have b_equals := F_equals.binds (ps := ["_law_bag_here", "_law_bows_here", "_law_ways", "_law_edits_here", "_law_book"]) (fun _ _ _ _ _ _ us hl => match us, hl with | [_, _, _, _, _], _ => rfl)
  have F_through := fun_mk (st := s_through) l_through c_through k_through
  have b_through := F_through.binds (ps := ["_law_book", "_law_first", "_law_edits_here", "_law_faces"]) (fun _ _ _ _ _ _ us hl => match us, hl with | [_, _, _, _], _ => rfl)
  have F_copyR := fun_mk (st := s_copyR) l_copyR c_copyR k_copyR
  have b_copyR := F_copyR.binds (ps := ["_law_book", "_law_first", "_law_edits_here", "_law_faces", "_law_spot"]) (fun _ _ _ _ _ _ us hl => match us, hl with | [_, _, _, _, _], _ => rfl)
  have F_lastR := fun_mk (st := s_lastR) l_lastR c_lastR k_lastR
  have b_lastR := F_lastR.binds (ps := ["_law_book", "_law_edits_here", "_law_faces", "_law_spot"]) (fun _ _ _ _ _ _ us hl => match us, hl with | [_, _, _, _], _ => rfl)
  have F_kInit := fun_mk (st := s_kInit) l_kInit c_kInit k_kInit
  have b_kInit := F_kInit.binds (ps := ["self", "ways"]) (fun _ _ _ _ _ _ us hl => match us, hl with | [_, _], _ => rfl)
  have F_kWays := fun_mk (st := s_kWays) l_kWays c_kWays k_kWays
  have b_kWays := F_kWays.binds (ps := ["self"]) (fun _ _ _ _ _ _ us hl => match us, hl with | [_], _ => rfl)
  have F_kTurned := fun_mk (st := s_kTurned) l_kTurned c_kTurned k_kTurned
  have b_kTurned := F_kTurned.binds (ps := ["self"]) (fun _ _ _ _ _ _ us hl => match us, hl with | [_], _ => rfl)
  have F_kHas := fun_mk (st := s_kHas) l_kHas c_kHas k_kHas
  have b_kHas := F_kHas.binds (ps := ["self", "thing"]) (fun _ _ _ _ _ _ us hl => match us, hl with | [_, _], _ => rfl)
  have F_kOr := fun_mk (st := s_kOr) l_kOr c_kOr k_kOr
  have b_kOr := F_kOr.binds (ps := ["self", "other"]) (fun _ _ _ _ _ _ us hl => match us, hl with | [_, _], _ => rfl)
  have F_kSub := fun_mk (st := s_kSub) l_kSub c_kSub k_kSub
  have b_kSub := F_kSub.binds (ps := ["self", "other"]) (fun _ _ _ _ _ _ us hl => match us, hl with | [_, _], _ => rfl)
  have F_kEq := fun_mk (st := s_kEq) l_kEq c_kEq k_kEq
  have b_kEq := F_kEq.binds (ps := ["self", "other"]) (fun _ _ _ _ _ _ us hl => match us, hl with | [_, _], _ => rfl)
  have F_rInit := fun_mk (st := s_rInit) l_rInit c_rInit k_rInit
  have b_rInit := F_rInit.binds (ps := ["self", "bows"]) (fun _ _ _ _ _ _ us hl => match us, hl with | [_, _], _ => rfl)
  have F_rBows := fun_mk (st := s_rBows) l_rBows c_rBows k_rBows
  have b_rBows := F_rBows.binds (ps := ["self"]) (fun _ _ _ _ _ _ us hl => match us, hl with | [_], _ => rfl)
  have F_rPut := fun_mk (st := s_rPut) l_rPut c_rPut k_rPut
  have b_rPut := F_rPut.binds (ps := ["self", "bow"]) (fun _ _ _ _ _ _ us hl => match us, hl with | [_, _], _ => rfl)
  have F_rTurned := fun_mk (st := s_rTurned) l_rTurned c_rTurned k_rTurned
  have b_rTurned := F_rTurned.binds (ps := ["self"]) (fun _ _ _ _ _ _ us hl => match us, hl with | [_], _ => rfl)
  have F_rEq := fun_mk (st := s_rEq) l_rEq c_rEq k_rEq
  have b_rEq := F_rEq.binds (ps := ["self", "other"]) (fun _ _ _ _ _ _ us hl => match us, hl with | [_, _], _ => rfl)
  have F_bInit := fun_mk (st := s_bInit) l_bInit c_bInit k_bInit
  have b_bInit := F_bInit.binds (ps := ["self", "row", "kind"]) (fun _ _ _ _ _ _ us hl => match us, hl with | [_, _, _], _ => rfl)
  have F_bRow := fun_mk (st := s_bRow) l_bRow c_bRow k_bRow
  have b_bRow := F_bRow.binds (ps := ["self"]) (fun _ _ _ _ _ _ us hl => match us, hl with | [_], _ => rfl)
  have F_bKind := fun_mk (st := s_bKind) l_bKind c_bKind k_bKind
  have b_bKind := F_bKind.binds (ps := ["self"]) (fun _ _ _ _ _ _ us hl => match us, hl with | [_], _ => rfl)
  have F_bDo := fun_mk (st := s_bDo) l_bDo c_bDo k_bDo
  have b_bDo := F_bDo.binds (ps := ["self", "edit"]) (fun _ _ _ _ _ _ us hl => match us, hl with | [_, _], _ => rfl)
  have F_bBack := fun_mk (st := s_bBack) l_bBack c_bBack k_bBack
  have b_bBack := F_bBack.binds (ps := ["self"]) (fun _ _ _ _ _ _ us hl => match us, hl with | [_], _ => rfl)
  have F_bAgain := fun_mk (st := s_bAgain) l_bAgain c_bAgain k_bAgain
  have b_bAgain := F_bAgain.binds (ps := ["self"]) (fun _ _ _ _ _ _ us hl => match us, hl with | [_], _ => rfl)
  have F_bLog := fun_mk (st := s_bLog) l_bLog c_bLog k_bLog
  have b_bLog := F_bLog.binds (ps := ["self"]) (fun _ _ _ _ _ _ us hl => match us, hl with | [_], _ => rfl)
  have F_bCopied := fun_mk (st := s_bCopied) l_bCopied c_bCopied k_bCopied
  have b_bCopied := F_bCopied.binds (ps := ["self"]) (fun _ _ _ _ _ _ us hl => match us, hl with | [_], _ => rfl)
  have F_bLen := fun_mk (st := s_bLen) l_bLen c_bLen k_bLen
  have b_bLen := F_bLen.binds (ps := ["self"]) (fun _ _ _ _ _ _ us hl => match us, hl with | [_], _ => rfl)
  have F_bEq := fun_mk (st := s_bEq) l_bEq c_bEq k_bEq
  have b_bEq := F_bEq.binds (ps := ["self", "other"]) (fun _ _ _ _ _ _ us hl => match us, hl with | [_, _], _ => rfl)
  exact ⟨{
    n_bool := PySem.W.mg_none_of X G z_bool,
    n_int := PySem.W.mg_none_of X G z_int,
    n_isinstance := PySem.W.mg_none_of X G z_isinstance,
    n_list := PySem.W.mg_none_of X G z_list,
    n_tuple := PySem.W.mg_none_of X G z_tuple,
    n_all := PySem.W.mg_none_of X G z_all,
    n_str := PySem.W.mg_none_of X G z_str,
    n_sorted := PySem.W.mg_none_of X G z_sorted,
    n_set := PySem.W.mg_none_of X G z_set,
    n_len := PySem.W.mg_none_of X G z_len,
    n_range := PySem.W.mg_none_of X G z_range,
    n_abs := PySem.W.mg_none_of X G z_abs,
    n_repr := PySem.W.mg_none_of X G z_repr,
    kind := ⟨C_Kind, ⟨pgKind, hdKind, poKind, saKind⟩, PySem.W.mg_of X G aKind, mkKind, kcKind, c1Kind, oc2, oc3, obKind, kit_self⟩,
    row := ⟨C_Row, ⟨pgRow, hdRow, poRow, saRow⟩, PySem.W.mg_of X G aRow, mkRow, kcRow, c1Row, oc2, oc3, obRow, kit_self⟩,
    book := ⟨C_Book, ⟨pgBook, hdBook, poBook, saBook⟩, PySem.W.mg_of X G aBook, mkBook, kcBook, c1Book, oc2, oc3, obBook, kit_self⟩,
    a_its_ways := n_its_ways,
    a_its_bows := n_its_bows,
    a_its_states := n_its_states,
    a_its_edits := n_its_edits,
    a_its_undone := n_its_undone,
    first := first,
    ne1 := ne1,
    nf1 := nf1,
    nf2 := nf2,
    nf3 := nf3,
    nf4 := nf4,
    nf5 := nf5,
    il := kit_no hdBook tyB sl (by rfl),
    in_ := kit_no hdBook tyB sn (by rfl),
    most := ⟨_, PySem.W.mg_of X G most⟩,
    ways := ways,
    mWays := PySem.W.mg_of X G mWays,
    vWays := ⟨_, itW, nW, lWays, rfl, rfl, sWays, vWays⟩,
    lens := lens,
    mLens := PySem.W.mg_of X G mLens,
    vLens := He.dicW_ok vLens,
    len1 := ⟨_, len1⟩,
    len2 := ⟨_, len2⟩,
    len3 := ⟨_, len3⟩,
    len4 := ⟨_, len4⟩,
    len5 := ⟨_, len5⟩,
    cErr := cErr,
    mErr := PySem.W.mg_of X G mErr,
    cNot := cNot,
    mNot := PySem.W.mg_of X G mNot,
    xNot := xNot,
    kNot := kNot,
    bNot := bNot,
    tNot := tNot,
    mNE := PySem.W.exm_ref b1 b2 b3 b4,
    iNot := kit_self,
    eNot := ⟨e1, e2, bNot, e4, e5, oc2, oc3, e8⟩,
    turnedBow := ⟨f_turnedBow, _, F_turnedBow, PySem.W.mg_of X G a_turnedBow, b_turnedBow⟩,
    isInteger := ⟨f_isInteger, _, F_isInteger, PySem.W.mg_of X G a_isInteger, b_isInteger⟩,
    isPlace := ⟨f_isPlace, _, F_isPlace, PySem.W.mg_of X G a_isPlace, b_isPlace⟩,
    isBow := ⟨f_isBow, _, F_isBow, PySem.W.mg_of X G a_isBow, b_isBow⟩,
    areBows := ⟨f_areBows, _, F_areBows, PySem.W.mg_of X G a_areBows, b_areBows⟩,
    isWay := ⟨f_isWay, _, F_isWay, PySem.W.mg_of X G a_isWay, b_isWay⟩,
    areWays := ⟨f_areWays, _, F_areWays, PySem.W.mg_of X G a_areWays, b_areWays⟩,
    isEdit := ⟨f_isEdit, _, F_isEdit, PySem.W.mg_of X G a_isEdit, b_isEdit⟩,
    edRow := ⟨f_edRow, _, F_edRow, PySem.W.mg_of X G a_edRow, b_edRow⟩,
    edKind := ⟨f_edKind, _, F_edKind, PySem.W.mg_of X G a_edKind, b_edKind⟩,
    bag := ⟨f_bag, _, F_bag, PySem.W.mg_of X G a_bag, b_bag⟩,
    take := ⟨f_take, _, F_take, PySem.W.mg_of X G a_take, b_take⟩,
    alike := ⟨f_alike, _, F_alike, PySem.W.mg_of X G a_alike, b_alike⟩,
    mixed := ⟨f_mixed, _, F_mixed, PySem.W.mg_of X G a_mixed, b_mixed⟩,
    one := ⟨f_one, _, F_one, PySem.W.mg_of X G a_one, b_one⟩,
    allWays := ⟨f_allWays, _, F_allWays, PySem.W.mg_of X G a_allWays, b_allWays⟩,
    bow := ⟨f_bow, _, F_bow, PySem.W.mg_of X G a_bow, b_bow⟩,
    bows := ⟨f_bows, _, F_bows, PySem.W.mg_of X G a_bows, b_bows⟩,
    spread := ⟨f_spread, _, F_spread, PySem.W.mg_of X G a_spread, b_spread⟩,
    waysDrawn := ⟨f_waysDrawn, _, F_waysDrawn, PySem.W.mg_of X G a_waysDrawn, b_waysDrawn⟩,
    other := ⟨f_other, _, F_other, PySem.W.mg_of X G a_other, b_other⟩,
    drawnBows := ⟨f_drawnBows, _, F_drawnBows, PySem.W.mg_of X G a_drawnBows, b_drawnBows⟩,
    edits := ⟨f_edits, _, F_edits, PySem.W.mg_of X G a_edits, b_edits⟩,
    face := ⟨f_face, _, F_face, PySem.W.mg_of X G a_face, b_face⟩,
    turned := ⟨f_turned, _, F_turned, PySem.W.mg_of X G a_turned, b_turned⟩,
    done := ⟨f_done, _, F_done, PySem.W.mg_of X G a_done, b_done⟩,
    equals := ⟨f_equals, _, F_equals, PySem.W.mg_of X G a_equals, b_equals⟩,
    through := ⟨f_through, _, F_through, PySem.W.mg_of X G a_through, b_through⟩,
    copyR := ⟨f_copyR, _, F_copyR, PySem.W.mg_of X G a_copyR, b_copyR⟩,
    lastR := ⟨f_lastR, _, F_lastR, PySem.W.mg_of X G a_lastR, b_lastR⟩,
    kInit := ⟨f_kInit, _, F_kInit, ⟨a_kInit, i_kInit, k_kInit⟩, b_kInit⟩,
    kWays := ⟨f_kWays, _, F_kWays, ⟨a_kWays, i_kWays, k_kWays⟩, b_kWays⟩,
    kTurned := ⟨f_kTurned, _, F_kTurned, ⟨a_kTurned, i_kTurned, k_kTurned⟩, b_kTurned⟩,
    kHas := ⟨f_kHas, _, F_kHas, ⟨a_kHas, i_kHas, k_kHas⟩, b_kHas⟩,
    kOr := ⟨f_kOr, _, F_kOr, ⟨a_kOr, i_kOr, k_kOr⟩, b_kOr⟩,
    kSub := ⟨f_kSub, _, F_kSub, ⟨a_kSub, i_kSub, k_kSub⟩, b_kSub⟩,
    kEq := ⟨f_kEq, _, F_kEq, ⟨a_kEq, i_kEq, k_kEq⟩, b_kEq⟩,
    rInit := ⟨f_rInit, _, F_rInit, ⟨a_rInit, i_rInit, k_rInit⟩, b_rInit⟩,
    rBows := ⟨f_rBows, _, F_rBows, ⟨a_rBows, i_rBows, k_rBows⟩, b_rBows⟩,
    rPut := ⟨f_rPut, _, F_rPut, ⟨a_rPut, i_rPut, k_rPut⟩, b_rPut⟩,
    rTurned := ⟨f_rTurned, _, F_rTurned, ⟨a_rTurned, i_rTurned, k_rTurned⟩, b_rTurned⟩,
    rEq := ⟨f_rEq, _, F_rEq, ⟨a_rEq, i_rEq, k_rEq⟩, b_rEq⟩,
    bInit := ⟨f_bInit, _, F_bInit, ⟨a_bInit, i_bInit, k_bInit⟩, b_bInit⟩,
    bRow := ⟨p_bRow, f_bRow, _, F_bRow, ⟨a_bRow, g_bRow, t_bRow, _, r_bRow⟩, b_bRow⟩,
    bKind := ⟨p_bKind, f_bKind, _, F_bKind, ⟨a_bKind, g_bKind, t_bKind, _, r_bKind⟩, b_bKind⟩,
    bDo := ⟨f_bDo, _, F_bDo, ⟨a_bDo, i_bDo, k_bDo⟩, b_bDo⟩,
    bBack := ⟨f_bBack, _, F_bBack, ⟨a_bBack, i_bBack, k_bBack⟩, b_bBack⟩,
    bAgain := ⟨f_bAgain, _, F_bAgain, ⟨a_bAgain, i_bAgain, k_bAgain⟩, b_bAgain⟩,
    bLog := ⟨f_bLog, _, F_bLog, ⟨a_bLog, i_bLog, k_bLog⟩, b_bLog⟩,
    bCopied := ⟨f_bCopied, _, F_bCopied, ⟨a_bCopied, i_bCopied, k_bCopied⟩, b_bCopied⟩,
    bLen := ⟨f_bLen, _, F_bLen, ⟨a_bLen, i_bLen, k_bLen⟩, b_bLen⟩,
    bEq := ⟨f_bEq, _, F_bEq, ⟨a_bEq, i_bEq, k_bEq⟩, b_bEq⟩ }⟩
end Bk

/-! The data: bows, edits, states; what the heap holds of them. -/
namespace Bk
open PySem L2

/-! ### the mirror -/
abbrev Bow := Int × Int
abbrev Big : Int := 1000000000000000000000000000000
def okBow (b : Bow) : Prop := b.1 < b.2 ∧ -Big ≤ b.1 ∧ b.2 ≤ Big
def WAYSL : List Str := ["apart", "begun", "chained", "crossing", "ended", "same", "within"]
def canon (p : Str → Bool) : List Str := WAYSL.filter p
inductive Ed where
  | turn | let_ (w : Str) | bar (w : Str) | row (bs : List Bow) | put (b : Bow)
  deriving DecidableEq
def okEd : Ed → Prop
  | .turn => True
  | .let_ w => w ∈ WAYSL
  | .bar w => w ∈ WAYSL
  | .row bs => (∀ b ∈ bs, okBow b) ∧ bs.length ≤ 3
  | .put b => okBow b
abbrev Stt := List Bow × List Str
def exch (x : Str) : Str := if x = "begun" then "ended" else if x = "ended" then "begun" else x
def step : Ed → Stt → Stt
  | .turn, s => (s.1.map fun b => (-b.2, -b.1), canon fun x => s.2.contains (exch x))
  | .let_ w, s => (s.1, canon fun x => s.2.contains x || decide (x = w))
  | .bar w, s => (s.1, canon fun x => s.2.contains x && !decide (x = w))
  | .row bs, s => (bs, s.2)
  | .put b, s => (s.1 ++ [b], s.2)
def okSt (n : Nat) (s : Stt) : Prop := (∀ b ∈ s.1, okBow b) ∧ s.1.length ≤ n ∧ s.2 = canon fun x => s.2.contains x

def idx (x : Str) : Nat := WAYSL.idxOf x
theorem idx_pw : WAYSL.Pairwise fun x y => idx x < idx y := by decide +kernel
theorem canon_pw (p : Str → Bool) : (canon p).Pairwise fun x y => idx x < idx y := idx_pw.sublist List.filter_sublist
theorem mem_canon {p : Str → Bool} {x : Str} : x ∈ canon p ↔ x ∈ WAYSL ∧ p x = true := List.mem_filter
theorem len_canon (p : Str → Bool) : (canon p).length ≤ 7 := List.length_filter_le p WAYSL
theorem uniq {f : Str → Nat} : ∀ (l m : List Str), l.Pairwise (fun x y => f x < f y) → m.Pairwise (fun x y => f x < f y) → (∀ x, x ∈ l ↔ x ∈ m) → l = m
  | [], [], _, _, _ => rfl
  | [], y :: m, _, _, h => absurd ((h y).mpr List.mem_cons_self) (by simp)
  | x :: l, [], _, _, h => absurd ((h x).mp List.mem_cons_self) (by simp)
  | x :: l, y :: m, a, b, h => by
    obtain ⟨a1, a2⟩ := List.pairwise_cons.mp a
    obtain ⟨b1, b2⟩ := List.pairwise_cons.mp b
    have e : x = y := by
      rcases List.mem_cons.mp ((h x).mp List.mem_cons_self) with q | q
      · exact q
      · rcases List.mem_cons.mp ((h y).mpr List.mem_cons_self) with z | z
        · exact z.symm
        · exact absurd (Nat.lt_trans (b1 x q) (a1 y z)) (Nat.lt_irrefl _)
    subst e
    have ih := uniq l m a2 b2 fun z => ⟨fun hz => (List.mem_cons.mp ((h z).mp (List.mem_cons_of_mem _ hz))).resolve_left fun q => absurd (a1 z hz) (by rw [q]; exact Nat.lt_irrefl _),
      fun hz => (List.mem_cons.mp ((h z).mpr (List.mem_cons_of_mem _ hz))).resolve_left fun q => absurd (b1 z hz) (by rw [q]; exact Nat.lt_irrefl _)⟩
    rw [ih]
theorem canon_ext {p q : Str → Bool} (h : ∀ x ∈ WAYSL, p x = q x) : canon p = canon q := List.filter_congr h
theorem contains_canon {p : Str → Bool} {x : Str} (hx : x ∈ WAYSL) : (canon p).contains x = p x := by
  cases e : p x with
  | true => exact List.contains_iff_mem.mpr (mem_canon.mpr ⟨hx, e⟩)
  | false =>
    cases q : (canon p).contains x with
    | false => rfl
    | true =>
      have z := (mem_canon.mp (List.contains_iff_mem.mp q)).2
      rw [e] at z
      cases z
theorem canon_self (p : Str → Bool) : canon p = canon fun x => (canon p).contains x := canon_ext fun x hx => (contains_canon hx).symm
theorem rise_all : (WAYSL.all fun x => WAYSL.all fun y => !(!PySem.Spec.ltCps y.cps.toList x.cps.toList) || decide (x = y) || decide (idx x < idx y)) = true := by decide +kernel
theorem rise_pw : ∀ (ys : List Str) (p : Str), p ∈ WAYSL → (∀ y ∈ ys, y ∈ WAYSL) → (p :: ys).Nodup → PyProof.Rows.risingS p ys = true → (p :: ys).Pairwise fun x y => idx x < idx y
  | [], p, _, _, _, _ => List.pairwise_singleton _ _
  | y :: ys, p, hp, hy, nd, h => by
    have h' : (!PySem.Spec.ltCps y.cps.toList p.cps.toList && PyProof.Rows.risingS y ys) = true := h
    obtain ⟨h1, h2⟩ := Bool.and_eq_true_iff.mp h'
    obtain ⟨n1, n2⟩ := List.nodup_cons.mp nd
    have hy0 := hy y List.mem_cons_self
    have z := List.all_eq_true.mp (List.all_eq_true.mp rise_all p hp) y hy0
    have ne : p ≠ y := fun q => n1 (q ▸ List.mem_cons_self)
    rw [h1] at z
    have lt : idx p < idx y := by simpa [ne] using z
    have ih := rise_pw ys y hy0 (fun u hu => hy u (List.mem_cons_of_mem _ hu)) n2 h2
    refine List.pairwise_cons.mpr ⟨fun u hu => ?_, ih⟩
    rcases List.mem_cons.mp hu with q | q
    · rw [q]; exact lt
    · exact Nat.lt_trans lt ((List.pairwise_cons.mp ih).1 u q)
/-- a sorted list of different ways is the canonical one -/
theorem sorted_canon {ys zs : List Str} (hz : ∀ x ∈ zs, x ∈ WAYSL) (hm : ∀ x, x ∈ ys ↔ x ∈ zs) (nd : ys.Nodup) (hs : PyProof.Rows.sortedS ys = true) : ys = canon fun x => zs.contains x := by
  have pw : ys.Pairwise fun x y => idx x < idx y := by
    cases ys with
    | nil => exact .nil
    | cons p ys => exact rise_pw ys p (hz p ((hm p).mp List.mem_cons_self)) (fun y hy => hz y ((hm y).mp (List.mem_cons_of_mem _ hy))) nd hs
  refine uniq _ _ pw (canon_pw _) fun x => ?_
  rw [hm x, mem_canon]
  exact ⟨fun h => ⟨hz x h, List.contains_iff_mem.mpr h⟩, fun h => List.contains_iff_mem.mp h.2⟩

/-! ### plain data -/
def bowD (b : Bow) : PyData := .tuple [.int b.1, .int b.2]
def bowsD (bs : List Bow) : List PyData := bs.map bowD
def strsD (ws : List Str) : List PyData := ws.map .str
def edD : Ed → PyData
  | .turn => .tuple [.str "turn"]
  | .let_ w => .tuple [.str "let", .str w]
  | .bar w => .tuple [.str "bar", .str w]
  | .row bs => .tuple [.str "row", .tuple (bowsD bs)]
  | .put b => .tuple [.str "put", bowD b]
def faceD (s : Stt) (es : List Ed) : PyData := .list [.list (bowsD s.1), .list (strsD s.2), .list (es.map edD), .int es.length]

theorem bowD_eqv (b c : Bow) : PyData.eqv (bowD b) (bowD c) = decide (b = c) := by
  obtain ⟨b1, b2⟩ := b
  obtain ⟨c1, c2⟩ := c
  simp only [bowD, PyData.eqv, PyData.eqvAll, Bool.and_true, Prod.mk.injEq]
  rw [Bool.decide_and, Bool.beq_eq_decide_eq, Bool.beq_eq_decide_eq]
theorem bowsD_eqv : ∀ bs cs : List Bow, PyData.eqvAll (bowsD bs) (bowsD cs) = decide (bs = cs)
  | [], [] => by simp [bowsD, PyData.eqvAll]
  | [], c :: cs => by simp [bowsD, PyData.eqvAll]
  | b :: bs, [] => by simp [bowsD, PyData.eqvAll]
  | b :: bs, c :: cs => by
    have ih := bowsD_eqv bs cs
    simp only [bowsD, List.map_cons, PyData.eqvAll, List.cons.injEq] at ih ⊢
    rw [ih, bowD_eqv, Bool.decide_and]
theorem strsD_eqv : ∀ bs cs : List Str, PyData.eqvAll (strsD bs) (strsD cs) = decide (bs = cs)
  | [], [] => by simp [strsD, PyData.eqvAll]
  | [], c :: cs => by simp [strsD, PyData.eqvAll]
  | b :: bs, [] => by simp [strsD, PyData.eqvAll]
  | b :: bs, c :: cs => by
    have ih := strsD_eqv bs cs
    simp only [strsD, List.map_cons, PyData.eqvAll, PyData.eqv, List.cons.injEq] at ih ⊢
    rw [ih, Bool.decide_and, Bool.beq_eq_decide_eq]
theorem edD_eqv (e d : Ed) : PyData.eqv (edD e) (edD d) = decide (e = d) := by
  cases e <;> cases d <;> simp only [edD, PyData.eqv, PyData.eqvAll, Bool.and_true, bowsD_eqv, bowD_eqv, Ed.let_.injEq, Ed.bar.injEq, Ed.row.injEq, Ed.put.injEq, beq_self_eq_true, Bool.true_and, Bool.beq_eq_decide_eq] <;> first | rfl | (simp (decide := true); done) | skip
theorem edsD_eqv : ∀ es ds : List Ed, PyData.eqvAll (es.map edD) (ds.map edD) = decide (es = ds)
  | [], [] => by simp [PyData.eqvAll]
  | [], c :: cs => by simp [PyData.eqvAll]
  | b :: bs, [] => by simp [PyData.eqvAll]
  | b :: bs, c :: cs => by
    have ih := edsD_eqv bs cs
    simp only [List.map_cons, PyData.eqvAll, List.cons.injEq] at ih ⊢
    rw [ih, edD_eqv, Bool.decide_and]
end Bk

/-! What the heap holds: plain data, rows, kinds, states, books; what stays. -/
namespace Bk
open PySem L2

/-! ### heaps -/
/-- all but F is as it was -/
def Keep (F : List Addr) (H H' : Hp) : Prop := ∀ a o, a ∉ F → H a = some o → H' a = some o
/-- the heap without the addresses M -/
def hide (M : List Addr) (H : Hp) : Hp := fun a => if a ∈ M then none else H a
/-- M is in use -/
def Dom (M : List Addr) (H : Hp) : Prop := ∀ a ∈ M, ∃ o, H a = some o
section
variable {F F' M M' : List Addr} {H H1 H2 H' : Hp} {a p : Addr} {o : HO}
theorem Keep.same (k : Keep [] H H') : Same H H' := fun a o e => k a o (by simp) e
theorem Keep.of (k : Same H H') : Keep F H H' := fun a o _ e => k a o e
theorem Keep.mono (k : Keep F H H') (h : ∀ a ∈ F, a ∈ F') : Keep F' H H' := fun a o n e => k a o (fun z => n (h a z)) e
theorem Keep.trans (k : Keep F H H1) (l : Keep F H1 H2) : Keep F H H2 := fun a o n e => l a o n (k a o n e)
theorem Keep.refl : Keep F H H := fun _ _ _ e => e
theorem Keep.upd (k : Keep F H H') (h : p ∈ F ∨ H' p = none) : Keep F H (upd H' p o) := fun a u n e => by
  have z := k a u n e
  rw [upd_ne]
  · exact z
  · rintro rfl
    rcases h with h | h
    · exact n h
    · rw [h] at z
      cases z
theorem same_upd (k : Same H H') (h : H' p = none) : Same H (upd H' p o) := fun a u e => by
  have z := k a u e
  rw [upd_ne (ne_of_none z h)]
  exact z
theorem hide_sub : Same (hide M H) H := fun a o e => by
  unfold hide at e
  split at e
  · cases e
  · exact e
theorem hide_at (h : a ∉ M) : hide M H a = H a := if_neg h
theorem hide_in (h : a ∈ M) : hide M H a = none := if_pos h
theorem hide_get (h : a ∉ M) (e : H a = some o) : hide M H a = some o := (hide_at h).trans e
theorem hide_nil : hide [] H = H := funext fun a => hide_at (by simp)
theorem hide_mono (k : ∀ a o, a ∉ M → H a = some o → a ∉ M' ∧ H' a = some o) : Same (hide M H) (hide M' H') := fun a o e => by
  by_cases h : a ∈ M
  · rw [hide_in h] at e
    cases e
  · rw [hide_at h] at e
    obtain ⟨h1, h2⟩ := k a o h e
    exact hide_get h1 h2
theorem hide_up (k : Same H H') : Same (hide M H) (hide M H') := hide_mono fun a o n e => ⟨n, k a o e⟩
theorem hide_keep (k : Keep F H H') (h : ∀ a ∈ F, a ∈ M) : Same (hide M H) (hide M H') := hide_mono fun a o n e => ⟨n, k a o (fun z => n (h a z)) e⟩
theorem hide_new (d : Dom M H) (h : H a = none) : a ∉ M := fun z => by
  obtain ⟨o, e⟩ := d a z
  rw [h] at e
  cases e
theorem Dom.up (d : Dom M H) (k : Same H H') : Dom M H' := fun a h => let ⟨o, e⟩ := d a h; ⟨o, k a o e⟩
theorem Dom.nil : Dom [] H := fun a h => absurd h (by simp)
theorem Dom.cons (h : H a = some o) (d : Dom M H) : Dom (a :: M) H := fun b hb => by
  rcases List.mem_cons.mp hb with e | hb
  · exact ⟨o, e ▸ h⟩
  · exact d b hb
theorem Dom.upd (d : Dom M H) : Dom M (upd H p o) := fun a h => by
  by_cases e : a = p
  · exact ⟨o, by rw [e]; exact upd_same⟩
  · obtain ⟨u, z⟩ := d a h
    exact ⟨u, by rw [upd_ne e]; exact z⟩
theorem Dom.keep (d : Dom M H) (k : Keep F H H') (h : ∀ a ∈ F, ∃ o, H' a = some o) : Dom M H' := fun a z => by
  by_cases e : a ∈ F
  · exact h a e
  · obtain ⟨o, q⟩ := d a z
    exact ⟨o, k a o e q⟩
/-- all but F is as it was, and F still stands -/
structure Kp (F : List Addr) (H H' : Hp) : Prop where
  keep : Keep F H H'
  live : ∀ a o, H a = some o → ∃ u, H' a = some u
theorem Kp.refl : Kp F H H := ⟨Keep.refl, fun a o e => ⟨o, e⟩⟩
theorem Kp.of (k : Same H H') : Kp F H H' := ⟨.of k, fun a o e => ⟨o, k a o e⟩⟩
theorem Kp.trans (k : Kp F H H1) (l : Kp F H1 H2) : Kp F H H2 := ⟨k.keep.trans l.keep, fun a o e => let ⟨u, z⟩ := k.live a o e; l.live a u z⟩
theorem Kp.mono (k : Kp F H H') (h : ∀ a ∈ F, a ∈ F') : Kp F' H H' := ⟨k.keep.mono h, k.live⟩
theorem Kp.upd (k : Kp F H H') (h : p ∈ F ∨ H' p = none) : Kp F H (L2.upd H' p o) := ⟨k.keep.upd h, fun a u e => by
  obtain ⟨x, z⟩ := k.live a u e
  by_cases q : a = p
  · exact ⟨o, by rw [q]; exact upd_same⟩
  · exact ⟨x, by rw [upd_ne q]; exact z⟩⟩
theorem Kp.dom (k : Kp F H H') (d : Dom M H) : Dom M H' := fun a h => let ⟨o, e⟩ := d a h; k.live a o e
theorem Kp.same (k : Kp [] H H') : Same H H' := k.keep.same
theorem Kp.free (k : Kp F H H') (h : H' a = none) : H a = none := by
  cases e : H a with
  | none => rfl
  | some o =>
    obtain ⟨u, z⟩ := k.live a o e
    rw [h] at z
    cases z
theorem Kp.hide (k : Kp F H H') (h : ∀ a ∈ F, a ∈ M) : Same (hide M H) (hide M H') := hide_keep k.keep h
theorem Kp.at (k : Kp F H H') (h : a ∉ F) (e : H a = some o) : H' a = some o := k.keep a o h e
theorem hide_upd (h : p ∈ M) : hide M (L2.upd H p o) = hide M H := funext fun a => by
  by_cases e : a ∈ M
  · rw [hide_in e, hide_in e]
  · rw [hide_at e, hide_at e, upd_ne (fun (z : a = p) => e (z ▸ h))]
theorem hide_more (h : ∀ a ∈ M, a ∈ M') : Same (hide M' H) (hide M H) := hide_mono fun a o n e => ⟨fun z => n (h a z), e⟩
theorem Same.seqT {K : PySem.W.Frag} {xs : List V} (e : Same H H') (h : SqT K H a xs) : SqT K H' a xs := by
  rcases h with (h | ⟨o, h⟩) | h
  · exact .inl (.inl (e _ _ h))
  · exact .inl (.inr ⟨o, e _ _ h⟩)
  · exact .inr h
theorem same_free (k : Same H H') (h : H' a = none) : H a = none := k.free h
end

/-! ### plain data -/
section
variable {K : PySem.W.Frag} {H H' : Hp}
mutual
theorem dp_up (e : Same H H') : ∀ {v : V} {d : PyData}, Dp K H v d → Dp K H' v d
  | _, _, .non => .non
  | _, _, .bl b => .bl b
  | _, _, .int i => .int i
  | _, _, .str x => .str x
  | _, _, .lst h a => .lst (e.seq h) (dpAll_up e a)
  | _, _, .tup h a => .tup (Same.seqT e h) (dpAll_up e a)
theorem dpAll_up (e : Same H H') : ∀ {vs : List V} {ds : List PyData}, DpAll K H vs ds → DpAll K H' vs ds
  | _, _, .nil => .nil
  | _, _, .cons a b => .cons (dp_up e a) (dpAll_up e b)
end
theorem dpAll_len : ∀ {vs : List V} {ds : List PyData}, DpAll K H vs ds → vs.length = ds.length
  | _, _, .nil => rfl
  | _, _, .cons a b => by rw [List.length_cons, List.length_cons, dpAll_len b]
theorem dpAll_app : ∀ {vs us : List V} {ds es : List PyData}, DpAll K H vs ds → DpAll K H us es → DpAll K H (vs ++ us) (ds ++ es)
  | _, _, _, _, .nil, b => b
  | _, _, _, _, .cons x a, b => .cons x (dpAll_app a b)
theorem dpAll_get : ∀ {vs : List V} {ds : List PyData} {i : Nat} {d : PyData}, DpAll K H vs ds → ds[i]? = some d → ∃ v, vs[i]? = some v ∧ Dp K H v d
  | _, _, i, d, .nil, h => by simp at h
  | _, _, 0, d, .cons x a, h => by simp at h; subst h; exact ⟨_, rfl, x⟩
  | _, _, i + 1, d, .cons x a, h => by
    obtain ⟨v, h1, h2⟩ := dpAll_get (i := i) (d := d) a (by simpa using h)
    exact ⟨v, by simpa using h1, h2⟩
theorem dpAll_take : ∀ {vs : List V} {ds : List PyData} (n : Nat), DpAll K H vs ds → DpAll K H (vs.take n) (ds.take n)
  | _, _, 0, _ => .nil
  | _, _, n + 1, .nil => .nil
  | _, _, n + 1, .cons x a => .cons x (dpAll_take n a)
theorem dpAll_drop : ∀ {vs : List V} {ds : List PyData} (n : Nat), DpAll K H vs ds → DpAll K H (vs.drop n) (ds.drop n)
  | _, _, 0, a => a
  | _, _, n + 1, .nil => .nil
  | _, _, n + 1, .cons x a => dpAll_drop n a
theorem dpAll_set : ∀ {vs : List V} {ds : List PyData} (i : Nat) {v : V} {d : PyData}, DpAll K H vs ds → Dp K H v d → DpAll K H (vs.set i v) (ds.set i d)
  | _, _, _, _, _, .nil, _ => .nil
  | _, _, 0, _, _, .cons x a, h => .cons h a
  | _, _, i + 1, _, _, .cons x a, h => .cons x (dpAll_set i a h)
theorem dpAll_strs : ∀ (ws : List Str), DpAll K H (ws.map V.str) (strsD ws)
  | [] => .nil
  | w :: ws => .cons (.str w) (dpAll_strs ws)
theorem dpAll_strs_inv : ∀ {vs : List V} {ws : List Str}, DpAll K H vs (strsD ws) → vs = ws.map V.str
  | _, [], h => by cases h; rfl
  | _, w :: ws, h => by
    cases h with
    | cons a b =>
      cases a
      rw [dpAll_strs_inv b]
      rfl
/-- a bow's tuple -/
theorem bow_inv {v : V} {b : Bow} (h : Dp K H v (bowD b)) : ∃ t, v = .ref t ∧ SqT K H t [.int b.1, .int b.2] := by
  cases h with
  | tup h a =>
    cases a with
    | cons a1 a2 =>
      cases a1
      cases a2 with
      | cons a1 a2 =>
        cases a1
        cases a2
        exact ⟨_, rfl, h⟩
theorem bow_mk {t : Addr} {b : Bow} (h : SqT K H t [.int b.1, .int b.2]) : Dp K H (.ref t) (bowD b) := .tup h (.cons (.int _) (.cons (.int _) .nil))
theorem lst_inv {v : V} {ds : List PyData} (h : Dp K H v (.list ds)) : ∃ a vs, v = .ref a ∧ SqL K H a vs ∧ DpAll K H vs ds := by
  cases h with
  | lst h a => exact ⟨_, _, rfl, h, a⟩
theorem tup_inv {v : V} {ds : List PyData} (h : Dp K H v (.tuple ds)) : ∃ a vs, v = .ref a ∧ SqT K H a vs ∧ DpAll K H vs ds := by
  cases h with
  | tup h a => exact ⟨_, _, rfl, h, a⟩
/-- an edit: its tuple, the tag first -/
def tag : Ed → Str
  | .turn => "turn"
  | .let_ _ => "let"
  | .bar _ => "bar"
  | .row _ => "row"
  | .put _ => "put"
def tailD : Ed → List PyData
  | .turn => []
  | .let_ w => [.str w]
  | .bar w => [.str w]
  | .row bs => [.tuple (bowsD bs)]
  | .put b => [bowD b]
theorem edD_eq (e : Ed) : edD e = .tuple (.str (tag e) :: tailD e) := by cases e <;> rfl
theorem ed_inv {v : V} {e : Ed} (h : Dp K H v (edD e)) : ∃ t vs, v = .ref t ∧ SqT K H t (.str (tag e) :: vs) ∧ DpAll K H vs (tailD e) := by
  rw [edD_eq] at h
  obtain ⟨t, vs, rfl, h1, h2⟩ := tup_inv h
  cases h2 with
  | cons a b =>
    cases a
    exact ⟨t, _, rfl, h1, b⟩
/-- an edit as it is handed in: a row's bows may stand in a list -/
def EdV (K : PySem.W.Frag) (H : Hp) (v : V) (e : Ed) : Prop := Dp K H v (edD e) ∨ ∃ bs, e = .row bs ∧ Dp K H v (.tuple [.str "row", .list (bowsD bs)])
theorem edV_up {v : V} {e : Ed} (k : Same H H') (h : EdV K H v e) : EdV K H' v e := h.imp (dp_up k) fun ⟨bs, h1, h2⟩ => ⟨bs, h1, dp_up k h2⟩

/-- a list that is being filled, at D, its items' data outside of D and of whatever stood -/
structure Acc (K : PySem.W.Frag) (F : List Addr) (H : Hp) (D : Addr) (H' : Hp) (acc : List V) (ds : List PyData) : Prop where
  kp : Kp F H H'
  new : H D = none
  at_ : H' D = some (.lst acc)
  dat : ∀ M, Dom M H → (∀ a ∈ F, a ∈ M) → DpAll K (hide (D :: M) H') acc ds
theorem Acc.start {F : List Addr} {D : Addr} (h : H D = none) : Acc K F H D (upd H D (.lst [])) [] [] := ⟨Kp.refl.upd (.inr h), h, upd_same, fun _ _ _ => .nil⟩
theorem Acc.push {F : List Addr} {D : Addr} {H'' : Hp} {acc : List V} {ds : List PyData} {v : V} {d : PyData} (A : Acc K F H D H' acc ds) (k : Kp F H' H'') (h : ∀ M, Dom M H → (∀ a ∈ F, a ∈ M) → Dp K (hide (D :: M) H'') v d) :
    Acc K F H D (upd H'' D (.lst (acc ++ [v]))) (acc ++ [v]) (ds ++ [d]) := by
  refine ⟨⟨fun a o n e => ?_, fun a o e => ?_⟩, A.new, upd_same, fun M hM hF => ?_⟩
  · rw [upd_ne (ne_of_none e A.new)]
    exact (A.kp.trans k).at n e
  · rw [upd_ne (ne_of_none e A.new)]
    exact (A.kp.trans k).live a o e
  · rw [hide_upd List.mem_cons_self]
    exact dpAll_app (dpAll_up (k.hide fun a h => List.mem_cons_of_mem _ (hF a h)) (A.dat M hM hF)) (.cons (h M hM hF) .nil)
theorem Acc.done {F : List Addr} {D : Addr} {acc : List V} {ds : List PyData} (A : Acc K F H D H' acc ds) : ∀ M, Dom M H → (∀ a ∈ F, a ∈ M) → DpAll K (hide M H') acc ds := fun M hM hF =>
  dpAll_up (hide_more fun a h => List.mem_cons_of_mem _ h) (A.dat M hM hF)
/-- M and D are in use -/
theorem Acc.dom {F : List Addr} {D : Addr} {acc : List V} {ds : List PyData} {M : List Addr} (A : Acc K F H D H' acc ds) (hM : Dom M H) : Dom (D :: M) H' := .cons A.at_ (A.kp.dom hM)

/-! ### lists of objects -/
theorem paired_up {α : Type} {R R' : V → α → Prop} (h : ∀ v a, R v a → R' v a) : ∀ {vs : List V} {as : List α}, Paired R vs as → Paired R' vs as
  | _, _, .nil => .nil
  | _, _, .cons x y => .cons (h _ _ x) (paired_up h y)
theorem paired_get {α : Type} {R : V → α → Prop} : ∀ {vs : List V} {as : List α} {i : Nat} {a : α}, Paired R vs as → as[i]? = some a → ∃ v, vs[i]? = some v ∧ R v a
  | _, _, i, a, .nil, h => by simp at h
  | _, _, 0, a, .cons x y, h => by simp at h; subst h; exact ⟨_, rfl, x⟩
  | _, _, i + 1, a, .cons x y, h => by
    obtain ⟨v, h1, h2⟩ := paired_get (i := i) (a := a) y (by simpa using h)
    exact ⟨v, by simpa using h1, h2⟩
theorem paired_app {α : Type} {R : V → α → Prop} : ∀ {vs us : List V} {as bs : List α}, Paired R vs as → Paired R us bs → Paired R (vs ++ us) (as ++ bs)
  | _, _, _, _, .nil, b => b
  | _, _, _, _, .cons x a, b => .cons x (paired_app a b)
theorem paired_len {α : Type} {R : V → α → Prop} : ∀ {vs : List V} {as : List α}, Paired R vs as → vs.length = as.length
  | _, _, .nil => rfl
  | _, _, .cons x y => by rw [List.length_cons, List.length_cons, paired_len y]
/-- the last one -/
theorem paired_last {α : Type} {R : V → α → Prop} : ∀ {vs : List V} {as : List α} {a : α}, Paired R vs (as ++ [a]) → ∃ us v, vs = us ++ [v] ∧ Paired R us as ∧ R v a
  | _, [], a, h => by
    cases h with
    | cons x y =>
      cases y
      exact ⟨[], _, rfl, .nil, x⟩
  | _, b :: as, a, h => by
    cases h with
    | cons x y =>
      obtain ⟨us, v, rfl, h1, h2⟩ := paired_last y
      exact ⟨_ :: us, v, rfl, .cons x h1, h2⟩
theorem paired_dp {α : Type} {f : α → PyData} : ∀ {vs : List V} {as : List α}, Paired (fun v a => Dp K H v (f a)) vs as → DpAll K H vs (as.map f)
  | _, _, .nil => .nil
  | _, _, .cons x y => .cons x (paired_dp y)
theorem dp_paired {α : Type} {f : α → PyData} : ∀ {vs : List V} {as : List α}, DpAll K H vs (as.map f) → Paired (fun v a => Dp K H v (f a)) vs as
  | _, [], h => by cases h; exact .nil
  | _, a :: as, h => by
    cases h with
    | cons x y => exact .cons x (dp_paired y)
end

/-! ### rows, kinds, states, books -/
section
variable {P : Program} {w : World} {K : PySem.W.Frag} {mg : Str → Option Value} (T : Txt P w K mg)
def rf (l : Addr) : List (Str × V) := putF "its_bows" (.ref l) []
def kf (l : Addr) : List (Str × V) := putF "its_ways" (.ref l) []
def bf (ls le lu : Addr) : List (Str × V) := putF "its_undone" (.ref lu) (putF "its_edits" (.ref le) (putF "its_states" (.ref ls) []))
def RowAt (H : Hp) (v : V) (bs : List Bow) : Prop := ∃ p dx l vs, v = .ref p ∧ H p = some (.ins T.row.C dx (rf l)) ∧ H l = some (.lst vs) ∧ DpAll K H vs (bowsD bs)
def KindAt (H : Hp) (v : V) (ws : List Str) : Prop := ∃ p dx l, v = .ref p ∧ H p = some (.ins T.kind.C dx (kf l)) ∧ H l = some (.lst (ws.map V.str))
def StAt (H : Hp) (v : V) (s : Stt) : Prop := ∃ t r k, v = .ref t ∧ H t = some (.tup [r, k]) ∧ RowAt T H r s.1 ∧ KindAt T H k s.2
def UnAt (H : Hp) (v : V) (u : Ed × Stt) : Prop := ∃ t e s, v = .ref t ∧ H t = some (.tup [e, s]) ∧ Dp K H e (edD u.1) ∧ StAt T H s u.2
/-- a book's addresses -/
structure Bks where
  p : Addr
  ls : Addr
  le : Addr
  lu : Addr
def Bks.fp (b : Bks) : List Addr := [b.p, b.ls, b.le, b.lu]
/-- a book at b, what it holds lying outside of M -/
structure BookAt (M : List Addr) (H : Hp) (b : Bks) (sts : List Stt) (eds : List Ed) (und : List (Ed × Stt)) : Prop where
  ob : ∃ dx, H b.p = some (.ins T.book.C dx (bf b.ls b.le b.lu))
  st : ∃ vs, H b.ls = some (.lst vs) ∧ Paired (StAt T (hide M H)) vs sts
  ed : ∃ vs, H b.le = some (.lst vs) ∧ DpAll K (hide M H) vs (eds.map edD)
  un : ∃ vs, H b.lu = some (.lst vs) ∧ Paired (UnAt T (hide M H)) vs und
  ap : b.ls ≠ b.le ∧ b.ls ≠ b.lu ∧ b.le ≠ b.lu
  mem : ∀ a ∈ b.fp, a ∈ M
variable {T} {H H' : Hp} {v : V} {M M' : List Addr} {b : Bks} {sts : List Stt} {eds : List Ed} {und : List (Ed × Stt)}
theorem row_up {bs : List Bow} (k : Same H H') (h : RowAt T H v bs) : RowAt T H' v bs := by
  obtain ⟨p, dx, l, vs, rfl, h1, h2, h3⟩ := h
  exact ⟨p, dx, l, vs, rfl, k _ _ h1, k _ _ h2, dpAll_up k h3⟩
theorem kind_up {ws : List Str} (k : Same H H') (h : KindAt T H v ws) : KindAt T H' v ws := by
  obtain ⟨p, dx, l, rfl, h1, h2⟩ := h
  exact ⟨p, dx, l, rfl, k _ _ h1, k _ _ h2⟩
theorem st_up {s : Stt} (k : Same H H') (h : StAt T H v s) : StAt T H' v s := by
  obtain ⟨t, r, q, rfl, h1, h2, h3⟩ := h
  exact ⟨t, r, q, rfl, k _ _ h1, row_up k h2, kind_up k h3⟩
theorem un_up {u : Ed × Stt} (k : Same H H') (h : UnAt T H v u) : UnAt T H' v u := by
  obtain ⟨t, r, q, rfl, h1, h2, h3⟩ := h
  exact ⟨t, r, q, rfl, k _ _ h1, dp_up k h2, st_up k h3⟩
/-- a book stands as it stood -/
theorem BookAt.up (h : BookAt T M H b sts eds und) (k : ∀ a ∈ b.fp, ∀ o, H a = some o → H' a = some o) (hk : Same (hide M H) (hide M' H')) (hm : ∀ a ∈ b.fp, a ∈ M') : BookAt T M' H' b sts eds und := by
  obtain ⟨⟨dx, h1⟩, ⟨vs, h2, h3⟩, ⟨es, h4, h5⟩, ⟨us, h6, h7⟩, ap, mem⟩ := h
  exact ⟨⟨dx, k _ (by simp [Bks.fp]) _ h1⟩, ⟨vs, k _ (by simp [Bks.fp]) _ h2, paired_up (fun v s => st_up hk) h3⟩, ⟨es, k _ (by simp [Bks.fp]) _ h4, dpAll_up hk h5⟩, ⟨us, k _ (by simp [Bks.fp]) _ h6, paired_up (fun v s => un_up hk) h7⟩, ap, hm⟩
theorem BookAt.same (h : BookAt T M H b sts eds und) (k : Same H H') : BookAt T M H' b sts eds und := h.up (fun a _ o e => k a o e) (hide_up k) h.mem
theorem BookAt.dom (h : BookAt T M H b sts eds und) : Dom b.fp H := by
  obtain ⟨⟨dx, h1⟩, ⟨vs, h2, h3⟩, ⟨es, h4, h5⟩, ⟨us, h6, h7⟩, ap, mem⟩ := h
  exact .cons h1 (.cons h2 (.cons h4 (.cons h6 .nil)))
/-- an instance and its lists lie apart -/
theorem BookAt.ne (h : BookAt T M H b sts eds und) : b.p ≠ b.ls ∧ b.p ≠ b.le ∧ b.p ≠ b.lu := by
  obtain ⟨⟨dx, h1⟩, ⟨vs, h2, h3⟩, ⟨es, h4, h5⟩, ⟨us, h6, h7⟩, ap, mem⟩ := h
  exact ⟨ne_of h1 h2 (by intro z; cases z), ne_of h1 h4 (by intro z; cases z), ne_of h1 h6 (by intro z; cases z)⟩

/-! ### the attributes -/
theorem e_us : ¬ (("its_undone" : Str) = "its_states") := by decide +kernel
theorem e_ue : ¬ (("its_undone" : Str) = "its_edits") := by decide +kernel
theorem e_es : ¬ (("its_edits" : Str) = "its_states") := by decide +kernel
theorem e_se : ¬ (("its_states" : Str) = "its_edits") := by decide +kernel
theorem e_su : ¬ (("its_states" : Str) = "its_undone") := by decide +kernel
theorem e_eu : ¬ (("its_edits" : Str) = "its_undone") := by decide +kernel
variable {ls le lu a : Addr}
theorem bf_s : (bf ls le lu).lookup ("its_states" : Str) = some (.ref ls) := by
  unfold bf
  rw [lookup_putF, if_neg e_su, lookup_putF, if_neg e_se, lookup_putF, if_pos rfl]
theorem bf_e : (bf ls le lu).lookup ("its_edits" : Str) = some (.ref le) := by
  unfold bf
  rw [lookup_putF, if_neg e_eu, lookup_putF, if_pos rfl]
theorem bf_u : (bf ls le lu).lookup ("its_undone" : Str) = some (.ref lu) := by
  unfold bf
  rw [lookup_putF, if_pos rfl]
theorem bf_no {m : Str} (h1 : ¬ m = "its_states") (h2 : ¬ m = "its_edits") (h3 : ¬ m = "its_undone") : (bf ls le lu).lookup m = none := by
  unfold bf
  rw [lookup_putF, if_neg h3, lookup_putF, if_neg h2, lookup_putF, if_neg h1]
  rfl
theorem bf_eq (ls le lu : Addr) : bf ls le lu = ([("its_states", V.ref ls), ("its_edits", V.ref le), ("its_undone", V.ref lu)] : List (Str × V)) := by
  have e1 : putF "its_edits" (.ref le) [(("its_states" : Str), V.ref ls)] = ([("its_states", V.ref ls), ("its_edits", V.ref le)] : List (Str × V)) := by
    show (if ("its_states" : Str) = "its_edits" then _ else (("its_states" : Str), V.ref ls) :: putF "its_edits" (V.ref le) []) = _
    rw [if_neg e_se]
    rfl
  have e2 : putF "its_undone" (.ref lu) [(("its_states" : Str), V.ref ls), ("its_edits", V.ref le)] = ([("its_states", V.ref ls), ("its_edits", V.ref le), ("its_undone", V.ref lu)] : List (Str × V)) := by
    show (if ("its_states" : Str) = "its_undone" then _ else (("its_states" : Str), V.ref ls) :: (if ("its_edits" : Str) = "its_undone" then _ else (("its_edits" : Str), V.ref le) :: putF "its_undone" (V.ref lu) [])) = _
    rw [if_neg e_su, if_neg e_eu]
    rfl
  unfold bf
  rw [show putF "its_states" (.ref ls) [] = [(("its_states" : Str), V.ref ls)] from rfl, e1, e2]
theorem bf_ps : putF "its_states" (.ref a) (bf ls le lu) = bf a le lu := by
  rw [bf_eq, bf_eq]
  show (if ("its_states" : Str) = "its_states" then (("its_states" : Str), V.ref a) :: _ else _) = _
  rw [if_pos rfl]
theorem bf_pe : putF "its_edits" (.ref a) (bf ls le lu) = bf ls a lu := by
  rw [bf_eq, bf_eq]
  show (if ("its_states" : Str) = "its_edits" then _ else (("its_states" : Str), V.ref ls) :: (if ("its_edits" : Str) = "its_edits" then (("its_edits" : Str), V.ref a) :: _ else _)) = _
  rw [if_neg e_se, if_pos rfl]
theorem bf_pu : putF "its_undone" (.ref a) (bf ls le lu) = bf ls le a := by
  rw [bf_eq, bf_eq]
  show (if ("its_states" : Str) = "its_undone" then _ else (("its_states" : Str), V.ref ls) :: (if ("its_edits" : Str) = "its_undone" then _ else (("its_edits" : Str), V.ref le) :: (if ("its_undone" : Str) = "its_undone" then (("its_undone" : Str), V.ref a) :: [] else _))) = _
  rw [if_neg e_su, if_neg e_eu, if_pos rfl]
theorem bf_len : (bf ls le lu).length < 1000 := by
  rw [bf_eq]
  show 3 < 1000
  decide
theorem rf_b : (rf a).lookup ("its_bows" : Str) = some (.ref a) := by
  unfold rf
  rw [lookup_putF, if_pos rfl]
theorem rf_no {m : Str} (h : ¬ m = "its_bows") : (rf a).lookup m = none := by
  unfold rf
  rw [lookup_putF, if_neg h]
  rfl
theorem kf_w : (kf a).lookup ("its_ways" : Str) = some (.ref a) := by
  unfold kf
  rw [lookup_putF, if_pos rfl]
theorem kf_no {m : Str} (h : ¬ m = "its_ways") : (kf a).lookup m = none := by
  unfold kf
  rw [lookup_putF, if_neg h]
  rfl
end
end Bk

/-! The walks: values. -/
namespace Bk
open PySem L2 L2.BK

theorem same_mut {H H' : Hp} {p : Addr} {o : HO} (e : Same H H') (h : H p = none) : Same H (upd H' p o) := fun a u ha => by
  rw [upd_ne (ne_of_none ha h)]
  exact e a u ha
theorem tyT {K : PySem.W.Frag} {H : Hp} {a : Addr} {xs : List V} (h : SqT K H a xs) : TyX K H (.ref a) (.type "tuple") := by
  rcases h with (h | ⟨o, h⟩) | ⟨o, its, n, h, c, _⟩
  · exact .base (.tup h)
  · exact .fTuple h
  · exact .kTuple h c
theorem tyL {K : PySem.W.Frag} {H : Hp} {a : Addr} {xs : List V} (h : SqL K H a xs) : TyX K H (.ref a) (.type "list") := by
  rcases h with (h | ⟨o, h⟩) | ⟨o, its, n, h, c, _⟩
  · exact .base (.lst h)
  · exact .base (.frz h)
  · exact .kList h c
theorem isSeqL {K : PySem.W.Frag} : PySem.W.kitAny K (.type "list") [.type "list", .type "tuple"] = some true := kitAny_cons (b := true) (kit_ty (by decide +kernel)) (fun z => Bool.noConfusion z) fun _ => rfl
theorem isSeqT {K : PySem.W.Frag} : PySem.W.kitAny K (.type "tuple") [.type "list", .type "tuple"] = some true :=
  kitAny_cons (b := false) (kit_ty (by decide +kernel)) (fun _ => kitAny_cons (b := true) (kit_ty (by decide +kernel)) (fun z => Bool.noConfusion z) fun _ => rfl) fun z => Bool.noConfusion z

/-! ### promises -/
def spInt : Sp := fun vs H Q _ => ∃ i : Int, vs = [.int i] ∧ Q (.bl true) H
def spPlace : Sp := fun vs H Q _ => ∃ i : Int, vs = [.int i] ∧ -Big ≤ i ∧ i ≤ Big ∧ Q (.bl true) H
def spIsBow (K : PySem.W.Frag) : Sp := fun vs H Q _ => ∃ v b, vs = [v] ∧ Dp K H v (bowD b) ∧ okBow b ∧ Q (.bl true) H
def spAreBows (K : PySem.W.Frag) : Sp := fun vs H Q _ => ∃ a us bs, vs = [.ref a] ∧ (SqL K H a us ∨ SqT K H a us) ∧ DpAll K H us (bowsD bs) ∧ (∀ b ∈ bs, okBow b) ∧ bs.length ≤ 1000 ∧ ∀ H', Same H H' → Q (.bl true) H'
def spIsWay : Sp := fun vs H Q _ => ∃ x, vs = [.str x] ∧ x ∈ WAYSL ∧ Q (.bl true) H
def spAreWays (K : PySem.W.Frag) : Sp := fun vs H Q _ => ∃ (a : Addr) (zs : List Str), vs = [.ref a] ∧ SqL K H a (zs.map V.str) ∧ (∀ x ∈ zs, x ∈ WAYSL) ∧ zs.length ≤ 1000 ∧ ∀ H', Same H H' → Q (.bl true) H'

section
variable {P : Program} {w : World} {K : PySem.W.Frag} {mg : Str → Option Value} {base : Heap} (T : Txt P w K mg)

theorem sc_isInteger : FnScope ["thing"] ["thing"] (defScope s_isInteger) := ⟨rfl, rfl, rfl, by decide +kernel, rfl, by decide +kernel, by decide +kernel⟩
theorem ok_isInteger : FnOk P w K mg base CX0 1 T.isInteger.f T.isInteger.fd ["thing"] spInt := by
  refine T.isInteger.F.ok sc_isInteger (fun vs H Q E h => ?_) (fun cdv A outer s H vs Q E hr h => ?_)
  · obtain ⟨i, rfl, _⟩ := h
    rfl
  · obtain ⟨i, rfl, k⟩ := h
    refine ⟨_, pss_one (ps_ret (pe_and (pe_callB call_isi (by rfl) T.n_isinstance (by decide +kernel) (pa_cons (pv 0) (pa_cons (pe_bltn (v := .ty "int") (by rfl) T.n_int (by decide +kernel) rfl) pa_nil)))
      (pe_one (pe_not (pe_callB call_isi (by rfl) T.n_isinstance (by decide +kernel) (pa_cons (pv 0) (pa_cons (pe_bltn (v := .ty "bool") (by rfl) T.n_bool (by decide +kernel) rfl) pa_nil))))))), ?_⟩
    refine ⟨_, rfl, _, _, _, _, true, rfl, .ty "int", .base (.int i), kit_ty (by decide +kernel), true, rfl, ?_⟩
    refine iteT ?_
    exact ⟨_, rfl, _, _, _, _, false, rfl, .ty "bool", .base (.int i), kit_ty (by decide +kernel), false, rfl, k⟩

theorem sc_isPlace : FnScope ["thing"] ["thing"] (defScope s_isPlace) := ⟨rfl, rfl, rfl, by decide +kernel, rfl, by decide +kernel, by decide +kernel⟩
theorem ok_isPlace : FnOk P w K mg base CX0 2 T.isPlace.f T.isPlace.fd ["thing"] spPlace := by
  refine T.isPlace.F.ok sc_isPlace (fun vs H Q E h => ?_) (fun cdv A outer s H vs Q E hr h => ?_)
  · obtain ⟨i, rfl, _⟩ := h
    rfl
  · obtain ⟨i, rfl, h1, h2, k⟩ := h
    obtain ⟨t, hM⟩ := T.most
    refine ⟨_, pss_one (ps_ret (pe_and (pe_call (ok_isInteger T) hr (by rfl) T.isInteger.mg T.isInteger.F.kp T.isInteger.b .nil pass0 (pa_cons (pv 0) pa_nil))
      (pe_one (pe_chain op_le op_le (pe_un un_neg (pe_glob (v := .int Big) (by rfl) hM ⟨t, rfl⟩)) (pv 0) (pe_glob (v := .int Big) (by rfl) hM ⟨t, rfl⟩))))), ?_⟩
    refine ⟨_, rfl, i, rfl, true, rfl, ?_⟩
    refine iteT ?_
    refine ⟨_, rfl, _, rfl, _, _, rfl, rfl, true, ?_, ?_⟩
    · show V.bl (decide (-Big ≤ i)) = V.bl true
      rw [decide_eq_true h1]
    refine iteT ?_
    refine ⟨_, _, rfl, rfl, ?_⟩
    show Q (V.bl (decide (i ≤ Big))) H
    rw [decide_eq_true h2]
    exact k

theorem sc_isBow : FnScope ["thing"] ["thing"] (defScope s_isBow) := ⟨rfl, rfl, rfl, by decide +kernel, rfl, by decide +kernel, by decide +kernel⟩
theorem ok_isBow : FnOk P w K mg base CX0 3 T.isBow.f T.isBow.fd ["thing"] (spIsBow K) := by
  refine T.isBow.F.ok sc_isBow (fun vs H Q E h => ?_) (fun cdv A outer s H vs Q E hr h => ?_)
  · obtain ⟨v, b, rfl, _⟩ := h
    rfl
  · obtain ⟨v, b, rfl, hv, ⟨h1, h2, h3⟩, k⟩ := h
    obtain ⟨t, rfl, ht⟩ := bow_inv hv
    have gP : FnOk P w K mg base CX0 2 T.isPlace.f T.isPlace.fd ["thing"] spPlace := ok_isPlace T
    refine ⟨_, pss_cons (ps_if (PW.pt (pw_or (pt_not (pt_val (pe_callB call_isi (by rfl) T.n_isinstance (by decide +kernel) (pa_cons (pv 0) (pa_cons (pe_bltn (v := .ty "tuple") (by rfl) T.n_tuple (by decide +kernel) rfl) pa_nil)))))
        (pw_or1 (pt_cmpR op_ne (pe_callB call_len_seq (by rfl) T.n_len PySem.boot_len (pa_cons (pv 0) pa_nil)) pe_int (nomark _))))) (pss_one (ps_ret pe_bl)) pss_nil)
      (pss_one (ps_ret (pe_and (pe_call gP hr (by rfl) T.isPlace.mg T.isPlace.F.kp T.isPlace.b .nil pass0 (pa_cons (pe_ix ix_tup (pv 0) pe_int (fun _ _ => rfl)) pa_nil))
        (pe_and (pe_call gP hr (by rfl) T.isPlace.mg T.isPlace.F.kp T.isPlace.b .nil pass0 (pa_cons (pe_ix ix_tup (pv 0) pe_int (fun _ _ => rfl)) pa_nil))
        (pe_one (pe_cmpR op_lt (pe_ix ix_tup (pv 0) pe_int (fun _ _ => rfl)) (pe_ix ix_tup (pv 0) pe_int (fun _ _ => rfl)) (nomark _))))))), ?_⟩
    refine ⟨_, rfl, _, _, _, _, true, rfl, .ty "tuple", tyT ht, kit_ty (by decide +kernel), true, rfl, ?_⟩
    refine iteF ?_
    refine ⟨_, rfl, t, _, rfl, .inr ht, rfl, _, rfl, ?_⟩
    refine iteF ?_
    refine ⟨_, rfl, t, _, _, _, rfl, rfl, ht, rfl, _, rfl, by omega, by omega, true, rfl, ?_⟩
    refine iteT ?_
    refine ⟨_, rfl, t, _, _, _, rfl, rfl, ht, rfl, _, rfl, by omega, by omega, true, rfl, ?_⟩
    refine iteT ?_
    refine ⟨_, rfl, t, _, _, _, rfl, rfl, ht, rfl, _, rfl, t, _, _, _, rfl, rfl, ht, rfl, _, _, rfl, rfl, ?_⟩
    show Q (V.bl (decide (b.1 < b.2))) H
    rw [decide_eq_true h1]
    exact k

theorem yes {σ : L2.St} {H : Hp} {Q : Bool → Hp → Prop} (h : Q true H) : tYes σ H Q := h
theorem all_true (n : Nat) : ((List.replicate n true).all id) = true := by simp
theorem rep_snoc (n : Nat) : ((List.replicate n true).map V.bl) ++ [.bl true] = (List.replicate (n + 1) true).map V.bl := by
  rw [List.replicate_succ', List.map_append]
  rfl

theorem sc_areBows : FnScope ["thing", "one"] ["thing"] (defScope s_areBows) := ⟨rfl, rfl, rfl, by decide +kernel, rfl, by decide +kernel, by decide +kernel⟩
theorem ok_areBows : FnOk P w K mg base CX0 4 T.areBows.f T.areBows.fd ["thing"] (spAreBows K) := by
  refine T.areBows.F.ok sc_areBows (fun vs H Q E h => ?_) (fun cdv A outer s H vs Q E hr h => ?_)
  · obtain ⟨a, us, bs, rfl, _⟩ := h
    rfl
  · obtain ⟨a, us, bs, rfl, hs, hd, hb, hl, k⟩ := h
    have gB : FnOk P w K mg base CX0 3 T.isBow.f T.isBow.fd ["thing"] (spIsBow K) := ok_isBow T
    have hlen : us.length = bs.length := (dpAll_len hd).trans (List.length_map _)
    -- one turn
    have turn : ∀ (D : Addr) (H1 : Hp), Same H H1 → H1 D = none → ∀ i x H', us[i]? = some x → (Same H1 H' ∧ H' D = some (.lst ((List.replicate i true).map V.bl))) →
        ∃ b, Dp K H' x (bowD b) ∧ okBow b := fun D H1 s1 hD i x H' hx p => by
      have hi : i < bs.length := by rw [← hlen]; exact (List.getElem?_eq_some_iff.mp hx).1
      obtain ⟨v, h1, h2⟩ := dpAll_get (i := i) (d := bowD bs[i]) hd (by unfold bowsD; rw [List.getElem?_map, List.getElem?_eq_getElem hi]; rfl)
      rw [hx] at h1
      cases h1
      exact ⟨bs[i], dp_up (s1.trans p.1) h2, hb _ (List.getElem_mem hi)⟩
    have fin : ∀ (D : Addr) (H1 : Hp), Same H H1 → H1 D = none → ∀ H', (Same H1 H' ∧ H' D = some (.lst ((List.replicate us.length true).map V.bl))) → rAll K [V.ref D] H' Q := fun D H1 s1 hD H' p =>
      ⟨D, List.replicate us.length true, rfl, SqL.of p.2, by rw [all_true]; exact k _ (s1.trans p.1)⟩
    rcases hs with hs | hs
    · refine ⟨_, pss_one (ps_ret (pe_and (pe_callB call_isiT (by rfl) T.n_isinstance (by decide +kernel) (pa_cons (pv 0) (pa_cons (pe_tup (pa_cons (pe_bltn (v := .ty "list") (by rfl) T.n_list (by decide +kernel) rfl) (pa_cons (pe_bltn (v := .ty "tuple") (by rfl) T.n_tuple (by decide +kernel) rfl) pa_nil))) pa_nil)))
        (pe_one (pe_callB (cr_all rfl) (by rfl) T.n_all (by decide +kernel) (pa_cons (pe_lc (own := [("one", 1)]) (g := gName 1) (tt := tYes) (by rfl) sc_areBows.nd (pi_list (pv 0)) (blkOk_by (own := [("one", 1)]) (N := ["thing", "one"]) (sc := defScope s_areBows) (by decide +kernel))
          (fun _ _ _ _ _ => pg_name (i := 1) sc_areBows.nd rfl (Or.inl rfl)) (fun _ _ _ _ _ => pts_nil)
          (fun _ _ _ _ _ => pe_call gB hr (by rfl) T.isBow.mg T.isBow.F.kp T.isBow.b .nil pass0 (pa_cons (pv 1) pa_nil))) pa_nil))))), ?_⟩
      refine ⟨_, rfl, by show 2 ≤ sizeLine; decide, fun tp htp => ?_⟩
      have s1 : Same H (upd H tp (.tup [.ty "list", .ty "tuple"])) := same_upd (Same.refl H) htp
      refine ⟨_, tp, [.ty "list", .ty "tuple"], .type "list", [.type "list", .type "tuple"], true, rfl, upd_same, .cons (.ty _) (.cons (.ty _) .nil), tyL (s1.seq hs), isSeqL, true, rfl, ?_⟩
      refine iteT ?_
      refine ⟨_, rfl, a, rfl, ⟨us, s1.seq hs⟩, fun D hD => ?_⟩
      refine lc_list (K := K) (xs := us) (fun i H' => Same (upd H tp (.tup [.ty "list", .ty "tuple"])) H' ∧ H' D = some (.lst ((List.replicate i true).map V.bl))) ⟨same_upd (Same.refl _) hD, upd_same⟩ (fun i H' _ p => (s1.trans p.1).seq hs) (fun i x H' hx p => ?_) (fin D _ s1 hD)
      obtain ⟨b, hb1, hb2⟩ := turn D _ s1 hD i x H' hx p
      refine ⟨rfl, yes (iteT ?_)⟩
      refine ⟨_, rfl, x, b, rfl, hb1, hb2, _, p.2, ?_, same_mut p.1 hD, ?_⟩
      · rw [List.length_map, List.length_replicate, PySem.sizeLine_eq]
        have : i < us.length := (List.getElem?_eq_some_iff.mp hx).1
        omega
      · rw [upd_same, rep_snoc]
    · refine ⟨_, pss_one (ps_ret (pe_and (pe_callB call_isiT (by rfl) T.n_isinstance (by decide +kernel) (pa_cons (pv 0) (pa_cons (pe_tup (pa_cons (pe_bltn (v := .ty "list") (by rfl) T.n_list (by decide +kernel) rfl) (pa_cons (pe_bltn (v := .ty "tuple") (by rfl) T.n_tuple (by decide +kernel) rfl) pa_nil))) pa_nil)))
        (pe_one (pe_callB (cr_all rfl) (by rfl) T.n_all (by decide +kernel) (pa_cons (pe_lc (own := [("one", 1)]) (g := gName 1) (tt := tYes) (by rfl) sc_areBows.nd (pi_tup (pv 0)) (blkOk_by (own := [("one", 1)]) (N := ["thing", "one"]) (sc := defScope s_areBows) (by decide +kernel))
          (fun _ _ _ _ _ => pg_name (i := 1) sc_areBows.nd rfl (Or.inl rfl)) (fun _ _ _ _ _ => pts_nil)
          (fun _ _ _ _ _ => pe_call gB hr (by rfl) T.isBow.mg T.isBow.F.kp T.isBow.b .nil pass0 (pa_cons (pv 1) pa_nil))) pa_nil))))), ?_⟩
      refine ⟨_, rfl, by show 2 ≤ sizeLine; decide, fun tp htp => ?_⟩
      have s1 : Same H (upd H tp (.tup [.ty "list", .ty "tuple"])) := same_upd (Same.refl H) htp
      refine ⟨_, tp, [.ty "list", .ty "tuple"], .type "tuple", [.type "list", .type "tuple"], true, rfl, upd_same, .cons (.ty _) (.cons (.ty _) .nil), tyT (Same.seqT s1 hs), isSeqT, true, rfl, ?_⟩
      refine iteT ?_
      refine ⟨_, rfl, a, rfl, ⟨us, Same.seqT s1 hs⟩, fun D hD => ?_⟩
      refine lc_tup (K := K) (xs := us) (fun i H' => Same (upd H tp (.tup [.ty "list", .ty "tuple"])) H' ∧ H' D = some (.lst ((List.replicate i true).map V.bl))) ⟨same_upd (Same.refl _) hD, upd_same⟩ (fun i H' _ p => Same.seqT (s1.trans p.1) hs) (fun i x H' hx p => ?_) (fin D _ s1 hD)
      obtain ⟨b, hb1, hb2⟩ := turn D _ s1 hD i x H' hx p
      refine ⟨rfl, yes (iteT ?_)⟩
      refine ⟨_, rfl, x, b, rfl, hb1, hb2, _, p.2, ?_, same_mut p.1 hD, ?_⟩
      · rw [List.length_map, List.length_replicate, PySem.sizeLine_eq]
        have : i < us.length := (List.getElem?_eq_some_iff.mp hx).1
        omega
      · rw [upd_same, rep_snoc]

theorem waysFlat : (WAYSL.map V.str).all flatV = true := flat_strs _
theorem inWays {x : Str} (h : x ∈ WAYSL) : inV (.str x) (WAYSL.map V.str) = true := by
  unfold inV
  rw [List.any_map]
  exact List.any_eq_true.mpr ⟨x, h, by show eqV (.str x) (.str x) = true; simp [eqV]⟩
theorem sc_isWay : FnScope ["thing"] ["thing"] (defScope s_isWay) := ⟨rfl, rfl, rfl, by decide +kernel, rfl, by decide +kernel, by decide +kernel⟩
theorem ok_isWay : FnOk P w K mg base CX0 1 T.isWay.f T.isWay.fd ["thing"] spIsWay := by
  refine T.isWay.F.ok sc_isWay (fun vs H Q E h => ?_) (fun cdv A outer s H vs Q E hr h => ?_)
  · obtain ⟨x, rfl, _⟩ := h
    rfl
  · obtain ⟨x, rfl, hx, k⟩ := h
    refine ⟨_, pss_one (ps_ret (pe_and (pe_callB call_isi (by rfl) T.n_isinstance (by decide +kernel) (pa_cons (pv 0) (pa_cons (pe_bltn (v := .ty "str") (by rfl) T.n_str (by decide +kernel) rfl) pa_nil)))
      (pe_one (pe_cmpR op_in_seq (pv 0) (pe_glob (v := .ref T.ways) (by rfl) T.mWays rfl) (by rfl))))), ?_⟩
    refine ⟨_, rfl, _, _, _, _, true, rfl, .ty "str", .base (.str x), kit_ty (by decide +kernel), true, rfl, ?_⟩
    refine iteT ?_
    refine ⟨_, rfl, T.ways, WAYSL.map V.str, rfl, .inr (.inr T.vWays), rfl, waysFlat, ?_⟩
    show Q (V.bl (inV (.str x) (WAYSL.map V.str))) H
    rw [inWays hx]
    exact k

theorem sc_areWays : FnScope ["thing", "one"] ["thing"] (defScope s_areWays) := ⟨rfl, rfl, rfl, by decide +kernel, rfl, by decide +kernel, by decide +kernel⟩
theorem ok_areWays : FnOk P w K mg base CX0 2 T.areWays.f T.areWays.fd ["thing"] (spAreWays K) := by
  refine T.areWays.F.ok sc_areWays (fun vs H Q E h => ?_) (fun cdv A outer s H vs Q E hr h => ?_)
  · obtain ⟨a, zs, rfl, _⟩ := h
    rfl
  · obtain ⟨a, zs, rfl, hs, hb, hl, k⟩ := h
    have gB : FnOk P w K mg base CX0 1 T.isWay.f T.isWay.fd ["thing"] spIsWay := ok_isWay T
    refine ⟨_, pss_one (ps_ret (pe_and (pe_callB call_isiT (by rfl) T.n_isinstance (by decide +kernel) (pa_cons (pv 0) (pa_cons (pe_tup (pa_cons (pe_bltn (v := .ty "list") (by rfl) T.n_list (by decide +kernel) rfl) (pa_cons (pe_bltn (v := .ty "tuple") (by rfl) T.n_tuple (by decide +kernel) rfl) pa_nil))) pa_nil)))
        (pe_one (pe_callB (cr_all rfl) (by rfl) T.n_all (by decide +kernel) (pa_cons (pe_lc (own := [("one", 1)]) (g := gName 1) (tt := tYes) (by rfl) sc_areWays.nd (pi_list (pv 0)) (blkOk_by (own := [("one", 1)]) (N := ["thing", "one"]) (sc := defScope s_areWays) (by decide +kernel))
          (fun _ _ _ _ _ => pg_name (i := 1) sc_areWays.nd rfl (Or.inl rfl)) (fun _ _ _ _ _ => pts_nil)
          (fun _ _ _ _ _ => pe_call gB hr (by rfl) T.isWay.mg T.isWay.F.kp T.isWay.b .nil pass0 (pa_cons (pv 1) pa_nil))) pa_nil))))), ?_⟩
    refine ⟨_, rfl, by show 2 ≤ sizeLine; decide, fun tp htp => ?_⟩
    have s1 : Same H (upd H tp (.tup [.ty "list", .ty "tuple"])) := same_upd (Same.refl H) htp
    refine ⟨_, tp, [.ty "list", .ty "tuple"], .type "list", [.type "list", .type "tuple"], true, rfl, upd_same, .cons (.ty _) (.cons (.ty _) .nil), tyL (s1.seq hs), isSeqL, true, rfl, ?_⟩
    refine iteT ?_
    refine ⟨_, rfl, a, rfl, ⟨_, s1.seq hs⟩, fun D hD => ?_⟩
    refine lc_list (K := K) (xs := zs.map V.str) (fun i H' => Same (upd H tp (.tup [.ty "list", .ty "tuple"])) H' ∧ H' D = some (.lst ((List.replicate i true).map V.bl))) ⟨same_upd (Same.refl _) hD, upd_same⟩ (fun i H' _ p => (s1.trans p.1).seq hs) (fun i x H' hx p => ?_) (fun H' p => ?_)
    · have hi : i < zs.length := by
        have q := (List.getElem?_eq_some_iff.mp hx).1
        rw [List.length_map] at q
        exact q
      rw [List.getElem?_map, List.getElem?_eq_getElem hi] at hx
      cases hx
      refine ⟨rfl, yes (iteT ?_)⟩
      refine ⟨_, rfl, zs[i], rfl, hb _ (List.getElem_mem hi), _, p.2, ?_, same_mut p.1 hD, ?_⟩
      · rw [List.length_map, List.length_replicate, PySem.sizeLine_eq]
        omega
      · rw [upd_same, rep_snoc]
    · exact ⟨D, List.replicate (zs.map V.str).length true, rfl, SqL.of p.2, by rw [all_true]; exact k _ (s1.trans p.1)⟩
end
end Bk

/-! The walks: kinds. -/
namespace Bk
open PySem L2 L2.BK

section
variable {P : Program} {w : World} {K : PySem.W.Frag} {mg : Str → Option Value} {base : Heap} (T : Txt P w K mg)

/-! ### promises -/
def spKInit : Sp := fun vs H Q _ => ∃ (p dx a : Addr) (zs : List Str), vs = [.ref p, .ref a] ∧ H p = some (.ins T.kind.C dx []) ∧ SqL K H a (zs.map V.str) ∧ (∀ x ∈ zs, x ∈ WAYSL) ∧ zs.length ≤ 100 ∧
  ∀ H' l, H l = none → H' p = some (.ins T.kind.C dx (kf l)) → H' l = some (.lst ((canon fun x => zs.contains x).map V.str)) → Keep [p] H H' → Q .non H'
def spKWays : Sp := fun vs H Q _ => ∃ v ws, vs = [v] ∧ KindAt T H v ws ∧ ∀ p, H p = none → Q (.ref p) (upd H p (.lst (ws.map V.str)))
def spKTurned : Sp := fun vs H Q _ => ∃ v ws, vs = [v] ∧ KindAt T H v ws ∧ (∀ x ∈ ws, x ∈ WAYSL) ∧ ws.length ≤ 7 ∧ ∀ H' v', Same H H' → (∀ M, Dom M H → KindAt T (hide M H') v' (canon fun x => ws.contains (exch x))) → Q v' H'
def spKHas : Sp := fun vs H Q _ => ∃ v ws x, vs = [v, .str x] ∧ KindAt T H v ws ∧ x ∈ WAYSL ∧ Q (.bl (ws.contains x)) H
def spKOr : Sp := fun vs H Q _ => ∃ v ws u zs, vs = [v, u] ∧ KindAt T H v ws ∧ KindAt T H u zs ∧ (∀ x ∈ ws, x ∈ WAYSL) ∧ ws.length ≤ 7 ∧ (∀ x ∈ zs, x ∈ WAYSL) ∧ zs.length ≤ 7 ∧ ∀ H' v', Same H H' → (∀ M, Dom M H → KindAt T (hide M H') v' (canon fun x => (ws ++ zs).contains x)) → Q v' H'
def spKSub : Sp := fun vs H Q _ => ∃ v ws u zs, vs = [v, u] ∧ KindAt T H v ws ∧ KindAt T H u zs ∧ (∀ x ∈ ws, x ∈ WAYSL) ∧ ws.length ≤ 7 ∧ ∀ H' v', Same H H' → (∀ M, Dom M H → KindAt T (hide M H') v' (canon fun x => (ws.filter fun y => !zs.contains y).contains x)) → Q v' H'
def spKEq : Sp := fun vs H Q _ => ∃ v ws u zs, vs = [v, u] ∧ KindAt T H v ws ∧ KindAt T H u zs ∧ (∀ x ∈ ws, x ∈ WAYSL) ∧ (∀ x ∈ zs, x ∈ WAYSL) ∧ ∀ H', Same H H' → Q (.bl (decide (ws = zs))) H'

variable {T}
theorem kMk : Mk K T.kind.C T.kInit.f := ⟨T.kind.makes, T.kInit.m.at_, T.kInit.m.fn, T.kind.kp⟩
/-- Kind(xs), behind its argument -/
theorem made_kind {H : Hp} {Q : VK} {E : XK} {a : Addr} {zs : List Str} (hs : SqL K H a (zs.map V.str)) (hz : ∀ x ∈ zs, x ∈ WAYSL) (hl : zs.length ≤ 100)
    (hQ : ∀ H2 u, Same H H2 → (∀ M, Dom M H → KindAt T (hide M H2) u (canon fun x => zs.contains x)) → Q u H2) :
    ∀ x dx, H x = none → H dx = none → dx ≠ x → spKInit T [.ref x, .ref a] (upd (upd H dx (.own x)) x (.ins T.kind.C dx [])) (fun v H2 => v = .non ∧ Q (.ref x) H2) E := fun x dx nx ndx ne => by
  have s0 : Same H (upd (upd H dx (.own x)) x (.ins T.kind.C dx [])) := fun b o e => by
    rw [upd_ne (ne_of_none e nx), upd_ne (ne_of_none e ndx)]
    exact e
  refine ⟨x, dx, a, zs, rfl, upd_same, s0.seq hs, hz, hl, fun H' l nl hp hw kp => ⟨rfl, hQ H' _ (fun b o e => kp b o (fun z => ne_of_none e nx (List.mem_singleton.mp z)) (s0 b o e)) fun M d => ?_⟩⟩
  exact ⟨x, dx, l, rfl, hide_get (hide_new d nx) hp, hide_get (hide_new d (s0.free nl)) hw⟩

variable (T)
theorem sc_kInit : FnScope ["self", "ways"] ["self", "ways"] (defScope s_kInit) := ⟨rfl, rfl, rfl, by decide +kernel, rfl, by decide +kernel, by decide +kernel⟩
theorem ok_kInit : FnOk P w K mg base CX0 3 T.kInit.f T.kInit.fd ["self", "ways"] (spKInit T) := by
  refine T.kInit.F.ok sc_kInit (fun vs H Q E h => ?_) (fun cdv A outer s H vs Q E hr h => ?_)
  · obtain ⟨p, dx, a, zs, rfl, _⟩ := h
    rfl
  · obtain ⟨p, dx, a, zs, rfl, hp, hs, hz, hl, k⟩ := h
    have gA : FnOk P w K mg base CX0 2 T.areWays.f T.areWays.fd ["thing"] (spAreWays K) := ok_areWays T
    refine ⟨_, pss_cons (ps_if (pt_not (pt_val (pe_call gA hr (by rfl) T.areWays.mg T.areWays.F.kp T.areWays.b .nil pass0 (pa_cons (pv 1) pa_nil)))) pss_never pss_nil)
      (pss_one (ps_fld (pv 0) (pe_callB (cr_sortTx rfl) (by rfl) T.n_sorted (by decide +kernel) (pa_cons (pe_callTy (cr_setTx rfl) (by rfl) T.n_set (by decide +kernel) (pa_cons (pv 1) pa_nil)) pa_nil)) rfl)), ?_⟩
    refine ⟨_, rfl, a, zs, rfl, hs, hz, by omega, fun H1 s1 => ⟨true, rfl, ?_⟩⟩
    refine iteF ?_
    refine ⟨_, rfl, a, zs, rfl, s1.seq hs, by omega, fun q l nq hm nd hll => ?_⟩
    have hl7 : l.length ≤ 7 := nd.length_le_of_subset (l₂ := WAYSL) (fun x hx => hz x ((hm x).mp hx))
    refine ⟨q, l, rfl, upd_same, nd, by omega, fun ys r pm hs' nr => ?_⟩
    have e : ys = canon fun x => zs.contains x := sorted_canon hz (fun x => (pm.mem_iff).trans (hm x)) (pm.nodup_iff.mpr nd) hs'
    subst e
    have hqr : q ≠ r := ne_of_none upd_same nr
    have s2 : Same H (upd (upd H1 q (SetTx P w q l)) r (.lst ((canon fun x => zs.contains x).map V.str))) := same_upd (same_upd s1 nq) nr
    have hp2 := s2 p _ hp
    refine ⟨_, rfl, p, T.kind.C, dx, [], rfl, hp2, T.kind.cl, T.a_its_ways, by decide, ?_⟩
    have hpr : p ≠ r := ne_of (s2 p _ hp) upd_same (by intro z; cases z)
    exact k _ r ((same_upd s1 nq).free nr) upd_same (by rw [upd_ne hpr.symm, upd_same]) (Keep.upd (.of s2) (.inl List.mem_cons_self))

theorem sc_kWays : FnScope ["self"] ["self"] (defScope s_kWays) := ⟨rfl, rfl, rfl, by decide +kernel, rfl, by decide +kernel, by decide +kernel⟩
theorem ok_kWays : FnOk P w K mg base CX0 1 T.kWays.f T.kWays.fd ["self"] (spKWays T) := by
  refine T.kWays.F.ok sc_kWays (fun vs H Q E h => ?_) (fun cdv A outer s H vs Q E hr h => ?_)
  · obtain ⟨v, ws, rfl, _⟩ := h
    rfl
  · obtain ⟨v, ws, rfl, ⟨p, dx, l, rfl, h1, h2⟩, k⟩ := h
    refine ⟨_, pss_one (ps_ret (pe_callTy call_list_of (by rfl) T.n_list (by decide +kernel) (pa_cons (pe_fld (pv 0) rfl) pa_nil))), ?_⟩
    exact ⟨_, rfl, p, T.kind.C, dx, _, _, rfl, h1, T.kind.cl, T.a_its_ways, kf_w, l, _, rfl, .inl (SqL.of h2), k⟩

theorem exch_ways : (WAYSL.all fun x => WAYSL.contains (exch x) && decide (exch (exch x) = x)) = true := by decide +kernel
theorem exch_mem {x : Str} (h : x ∈ WAYSL) : exch x ∈ WAYSL := by
  have z := List.all_eq_true.mp exch_ways x h
  exact List.contains_iff_mem.mp (Bool.and_eq_true_iff.mp z).1
theorem exch_exch {x : Str} (h : x ∈ WAYSL) : exch (exch x) = x := by
  have z := List.all_eq_true.mp exch_ways x h
  exact of_decide_eq_true (Bool.and_eq_true_iff.mp z).2
def exDict : List (Key × V) := [(.inr "begun", .str "ended"), (.inr "ended", .str "begun")]
theorem exDict_merge : mergeK [] exDict = exDict := by decide +kernel
theorem exDict_get (x : Str) : (valV exDict (.inr x)).getD (.str x) = .str (exch x) := by
  unfold valV exDict exch
  by_cases h1 : x = "begun"
  · subst h1
    rfl
  · by_cases h2 : x = "ended"
    · subst h2
      rw [if_neg h1, if_pos rfl]
      rfl
    · rw [if_neg h1, if_neg h2]
      have e1 : decide (("begun" : Str) = x) = false := decide_eq_false fun q => h1 q.symm
      have e2 : decide (("ended" : Str) = x) = false := decide_eq_false fun q => h2 q.symm
      simp [List.find?, e1, e2]

theorem sc_kTurned : FnScope ["self", "other", "way"] ["self"] (defScope s_kTurned) := ⟨rfl, rfl, rfl, by decide +kernel, rfl, by decide +kernel, by decide +kernel⟩
theorem ok_kTurned : FnOk P w K mg base CX0 5 T.kTurned.f T.kTurned.fd ["self"] (spKTurned T) := by
  refine T.kTurned.F.ok sc_kTurned (fun vs H Q E h => ?_) (fun cdv A outer s H vs Q E hr h => ?_)
  · obtain ⟨v, ws, rfl, _⟩ := h
    rfl
  · obtain ⟨v, ws, rfl, ⟨p, dx, l, rfl, h1, h2⟩, hw, hl, k⟩ := h
    have hu := hu_of hr
    have gK : FnOk P w K mg base CX0 3 T.kInit.f T.kInit.fd ["self", "ways"] (spKInit T) := ok_kInit T
    refine ⟨_, pss_cons (ps_set (i := 1) sc_kTurned.nd rfl (Or.inr rfl) (pe_disp (pps_cons pe_str pe_str (pps_cons pe_str pe_str pps_nil)) (by rfl) (by rfl) (fun z => by cases z) (by decide)))
      (pss_one (ps_ret (pe_make kMk gK hr (by rfl) T.kind.mg T.kInit.b .nil pass0 (pa_cons (pe_lc (own := [("way", 2)]) (g := gName 2) (tt := tYes) (by rfl) sc_kTurned.nd (pi_list (pe_fld (pv 0) rfl)) (blkOk_by (own := [("way", 2)]) (N := ["self", "other", "way"]) (sc := defScope s_kTurned) (by decide +kernel))
          (fun _ _ _ _ _ => pg_name (i := 2) sc_kTurned.nd rfl (Or.inl rfl)) (fun _ _ _ _ _ => pts_nil)
          (fun _ _ _ _ _ => pe_dget2 hu (pv 1) (pv 2) (pv 2) ⟨rfl, rfl, rfl, rfl⟩)) pa_nil)))), ?_⟩
    intro d hd
    refine ⟨upd_same, exDict, rfl, by decide, ?_⟩
    rw [exDict_merge]
    have s1 : Same H (upd (upd H d (.dK [])) d (.dK exDict)) := by
      rw [upd_upd]
      exact same_upd (Same.refl H) hd
    generalize hH1 : upd (upd H d (.dK [])) d (.dK exDict) = H1 at s1 ⊢
    have hd1 : H1 d = some (.dK exDict) := by rw [← hH1, upd_same]
    refine ⟨_, rfl, p, T.kind.C, dx, _, _, rfl, s1 _ _ h1, T.kind.cl, T.a_its_ways, kf_w, l, rfl, ⟨_, SqL.of (s1 _ _ h2)⟩, fun D hD => ?_⟩
    refine lc_list (K := K) (xs := ws.map V.str) (fun i H' => Same H1 H' ∧ H' D = some (.lst (((ws.map exch).take i).map V.str))) ⟨same_upd (Same.refl _) hD, upd_same⟩ (fun i H' _ q => SqL.of (q.1 _ _ (s1 _ _ h2))) (fun i x H' hx q => ?_) (fun H' q => ?_)
    · have hi : i < ws.length := by
        have z := (List.getElem?_eq_some_iff.mp hx).1
        rw [List.length_map] at z
        exact z
      rw [List.getElem?_map, List.getElem?_eq_getElem hi] at hx
      cases hx
      refine ⟨rfl, yes (iteT ?_)⟩
      refine ⟨_, rfl, d, rfl, .inl ⟨_, .inl (q.1 _ _ hd1)⟩, _, rfl, _, rfl, _, DGet.k (k := Sum.inr ws[i]) (q.1 _ _ hd1), _, q.2, ?_, same_mut q.1 hD, ?_⟩
      · rw [List.length_map, List.length_take, PySem.sizeLine_eq]
        omega
      · rw [upd_same, exDict_get, List.take_add_one, List.getElem?_map, List.getElem?_eq_getElem hi, List.map_append]
        rfl
    · have q2 : H' D = some (.lst ((ws.map exch).map V.str)) := by
        rw [q.2, List.length_map, show (ws.map exch).take ws.length = ws.map exch from List.take_of_length_le (by rw [List.length_map]; exact Nat.le_refl _)]
      have s2 : Same H H' := s1.trans q.1
      refine made_kind (T := T) (SqL.of q2) (fun x hx => ?_) (by rw [List.length_map]; omega) fun H2 u s3 hk => k H2 u (s2.trans s3) fun M hM => ?_
      · obtain ⟨y, hy, rfl⟩ := List.mem_map.mp hx
        exact exch_mem (hw y hy)
      · have z := hk M (hM.up s2)
        have e : (canon fun x => (ws.map exch).contains x) = canon fun x => ws.contains (exch x) := canon_ext fun x hx => by
          rw [Bool.eq_iff_iff, List.contains_iff_mem, List.contains_iff_mem, List.mem_map]
          exact ⟨fun ⟨y, hy, e⟩ => by rw [← e, exch_exch (hw y hy)]; exact hy, fun h => ⟨exch x, h, exch_exch hx⟩⟩
        rw [e] at z
        exact z

theorem sc_kHas : FnScope ["self", "thing"] ["self", "thing"] (defScope s_kHas) := ⟨rfl, rfl, rfl, by decide +kernel, rfl, by decide +kernel, by decide +kernel⟩
theorem inStrs (x : Str) (ws : List Str) : inV (.str x) (ws.map V.str) = ws.contains x := by
  unfold inV
  rw [List.any_map, List.contains_eq_any_beq]
  refine congrArg (fun f => ws.any f) (funext fun y => ?_)
  show eqV (.str y) (.str x) = (x == y)
  simp only [eqV]
  first | rfl | exact BEq.comm | (rw [Bool.eq_iff_iff]; simp [eq_comm])
theorem ok_kHas : FnOk P w K mg base CX0 2 T.kHas.f T.kHas.fd ["self", "thing"] (spKHas T) := by
  refine T.kHas.F.ok sc_kHas (fun vs H Q E h => ?_) (fun cdv A outer s H vs Q E hr h => ?_)
  · obtain ⟨v, ws, x, rfl, _⟩ := h
    rfl
  · obtain ⟨v, ws, x, rfl, ⟨p, dx, l, rfl, h1, h2⟩, hx, k⟩ := h
    have gW : FnOk P w K mg base CX0 1 T.isWay.f T.isWay.fd ["thing"] spIsWay := ok_isWay T
    refine ⟨_, pss_one (ps_ret (pe_and (pe_call gW hr (by rfl) T.isWay.mg T.isWay.F.kp T.isWay.b .nil pass0 (pa_cons (pv 1) pa_nil)) (pe_one (pe_cmpR op_in_seq (pv 1) (pe_fld (pv 0) rfl) (by rfl))))), ?_⟩
    refine ⟨_, rfl, x, rfl, hx, true, rfl, ?_⟩
    refine iteT ?_
    refine ⟨_, rfl, _, rfl, p, T.kind.C, dx, _, _, rfl, h1, T.kind.cl, T.a_its_ways, kf_w, l, _, rfl, .inl (SqL.of h2), rfl, flat_strs _, ?_⟩
    show Q (V.bl (inV (.str x) (ws.map V.str))) H
    rw [inStrs]
    exact k

theorem sc_kOr : FnScope ["self", "other"] ["self", "other"] (defScope s_kOr) := ⟨rfl, rfl, rfl, by decide +kernel, rfl, by decide +kernel, by decide +kernel⟩
theorem ok_kOr : FnOk P w K mg base CX0 5 T.kOr.f T.kOr.fd ["self", "other"] (spKOr T) := by
  refine T.kOr.F.ok sc_kOr (fun vs H Q E h => ?_) (fun cdv A outer s H vs Q E hr h => ?_)
  · obtain ⟨v, ws, u, zs, rfl, _⟩ := h
    rfl
  · obtain ⟨v, ws, u, zs, rfl, ⟨p, dx, l, rfl, h1, h2⟩, h3, hw, hl, hz, hm, k⟩ := h
    have gK : FnOk P w K mg base CX0 3 T.kInit.f T.kInit.fd ["self", "ways"] (spKInit T) := ok_kInit T
    have gW : FnOk P w K mg base CX0 1 T.kWays.f T.kWays.fd ["self"] (spKWays T) := ok_kWays T
    have hr1 : Room 1 _ := hr.mono (by decide)
    refine ⟨_, pss_one (ps_ret (pe_make kMk gK hr (by rfl) T.kind.mg T.kInit.b .nil pass0 (pa_cons (pe_op op_cat (pe_fld (pv 0) rfl) (pe_meth0 (pv 1) T.kind.cl T.kWays.m gW hr1 T.kWays.b .nil pass0)) pa_nil))), ?_⟩
    obtain ⟨q, dq, m, rfl, g1, g2⟩ := id h3
    refine ⟨_, rfl, p, T.kind.C, dx, _, _, rfl, h1, T.kind.cl, T.a_its_ways, kf_w, _, rfl, q, dq, _, rfl, g1, kf_no (by decide +kernel), _, zs, rfl, h3, fun r nr => ?_⟩
    refine ⟨l, r, _, _, rfl, rfl, same_upd (Same.refl H) nr _ _ h2, upd_same, ?_, fun t nt => ?_⟩
    · rw [List.length_map, List.length_map, PySem.sizeLine_eq]
      omega
    have s1 : Same H (upd (upd H r (.lst (zs.map V.str))) t (.lst (ws.map V.str ++ zs.map V.str))) := same_upd (same_upd (Same.refl H) nr) nt
    refine made_kind (T := T) (zs := ws ++ zs) (SqL.of (by rw [upd_same, List.map_append])) (fun x hx => (List.mem_append.mp hx).elim (hw x) (hz x)) (by rw [List.length_append]; omega) fun H2 u s3 hk => k H2 u (s1.trans s3) fun M hM => hk M (hM.up s1)

theorem sc_kSub : FnScope ["self", "other", "way"] ["self", "other"] (defScope s_kSub) := ⟨rfl, rfl, rfl, by decide +kernel, rfl, by decide +kernel, by decide +kernel⟩
theorem filt_snoc (zs ws : List Str) (i : Nat) (hi : i < ws.length) : ((ws.take (i + 1)).filter fun y => !zs.contains y) = ((ws.take i).filter fun y => !zs.contains y) ++ (if (!zs.contains ws[i]) = true then [ws[i]] else []) := by
  rw [List.take_add_one, List.getElem?_eq_getElem hi, List.filter_append]
  congr 1
  show List.filter _ [ws[i]] = _
  rw [List.filter_cons]
  rfl
theorem ok_kSub : FnOk P w K mg base CX0 5 T.kSub.f T.kSub.fd ["self", "other"] (spKSub T) := by
  refine T.kSub.F.ok sc_kSub (fun vs H Q E h => ?_) (fun cdv A outer s H vs Q E hr h => ?_)
  · obtain ⟨v, ws, u, zs, rfl, _⟩ := h
    rfl
  · obtain ⟨v, ws, u, zs, rfl, ⟨p, dx, l, rfl, h1, h2⟩, h3, hw, hl, k⟩ := h
    have gK : FnOk P w K mg base CX0 3 T.kInit.f T.kInit.fd ["self", "ways"] (spKInit T) := ok_kInit T
    have gH : FnOk P w K mg base CX0 2 T.kHas.f T.kHas.fd ["self", "thing"] (spKHas T) := ok_kHas T
    have hr2 : Room 2 _ := hr.mono (by decide)
    refine ⟨_, pss_one (ps_ret (pe_make kMk gK hr (by rfl) T.kind.mg T.kInit.b .nil pass0 (pa_cons (pe_lc (own := [("way", 2)]) (g := gName 2) (by rfl) sc_kSub.nd (pi_list (pe_fld (pv 0) rfl)) (blkOk_by (own := [("way", 2)]) (N := ["self", "other", "way"]) (sc := defScope s_kSub) (by decide +kernel))
          (fun _ _ _ _ _ => pg_name (i := 2) sc_kSub.nd rfl (Or.inl rfl)) (fun _ _ _ _ _ => pts_one (pt_cmpR (op_notIn_own gH hr2 T.kHas.b pass0 T.kHas.m) (pv 2) (pv 1) (by rfl)))
          (fun _ _ _ _ _ => pv 2)) pa_nil))), ?_⟩
    obtain ⟨q, dq, m, rfl, g1, g2⟩ := id h3
    refine ⟨_, rfl, p, T.kind.C, dx, _, _, rfl, h1, T.kind.cl, T.a_its_ways, kf_w, l, rfl, ⟨_, SqL.of h2⟩, fun D hD => ?_⟩
    refine lc_list (K := K) (xs := ws.map V.str) (fun i H' => Same H H' ∧ H' D = some (.lst (((ws.take i).filter fun y => !zs.contains y).map V.str))) ⟨same_upd (Same.refl _) hD, upd_same⟩ (fun i H' _ q => SqL.of (q.1 _ _ h2)) (fun i x H' hx q' => ?_) (fun H' q' => ?_)
    · have hi : i < ws.length := by
        have z := (List.getElem?_eq_some_iff.mp hx).1
        rw [List.length_map] at z
        exact z
      rw [List.getElem?_map, List.getElem?_eq_getElem hi] at hx
      cases hx
      refine ⟨rfl, ?_⟩
      refine ⟨_, rfl, _, rfl, q, dq, _, rfl, q'.1 _ _ g1, _, zs, ws[i], rfl, kind_up q'.1 h3, hw _ (List.getElem_mem hi), _, rfl, _, rfl, ?_⟩
      refine ite2 (fun hc => ?_) (fun hc => ?_)
      · refine ⟨_, rfl, _, q'.2, ?_, same_mut q'.1 hD, ?_⟩
        · rw [List.length_map, PySem.sizeLine_eq]
          have := List.length_filter_le (fun y => !zs.contains y) (ws.take i)
          rw [List.length_take] at this
          omega
        · rw [upd_same, filt_snoc _ _ _ hi, if_pos hc, List.map_append]
          rfl
      · refine ⟨q'.1, ?_⟩
        rw [q'.2, filt_snoc _ _ _ hi, if_neg hc, List.append_nil]
    · have q2 : H' D = some (.lst ((ws.filter fun y => !zs.contains y).map V.str)) := by
        rw [q'.2, List.length_map, List.take_length]
      refine made_kind (T := T) (SqL.of q2) (fun x hx => hw x (List.mem_filter.mp hx).1) (by have := List.length_filter_le (fun y => !zs.contains y) ws; omega) fun H2 u s3 hk => k H2 u (q'.1.trans s3) fun M hM => hk M (hM.up q'.1)

theorem sc_kEq : FnScope ["self", "other"] ["self", "other"] (defScope s_kEq) := ⟨rfl, rfl, rfl, by decide +kernel, rfl, by decide +kernel, by decide +kernel⟩
theorem tyI {c : Str} (G : Gc K mg c) {H : Hp} {p dx : Addr} {fs : List (Str × V)} (h : H p = some (.ins G.C dx fs)) : TyX K H (.ref p) (.ref G.C) := .base (.ins h G.cl G.c1 G.c2 G.c3 G.ob)
theorem ways_ok : (WAYSL.all fun x => PyData.strOk x) = true := by decide +kernel
theorem way_ok {x : Str} (h : x ∈ WAYSL) : PyData.strOk x = true := List.all_eq_true.mp ways_ok x h
theorem strs_lay : ∀ zs : List Str, (∀ x ∈ zs, x ∈ WAYSL) → PyData.canLayAll0 (strsD zs) = true
  | [], _ => rfl
  | z :: zs, h => by
    have ih := strs_lay zs fun x hx => h x (List.mem_cons_of_mem _ hx)
    have e := way_ok (h z List.mem_cons_self)
    simp only [strsD, List.map_cons, PyData.canLayAll0, PyData.canLay0, e, Bool.true_and] at ih ⊢
    exact ih
theorem strs_depth : ∀ zs : List Str, PyData.depthAll (strsD zs) = 0
  | [] => rfl
  | z :: zs => by
    have ih := strs_depth zs
    simp only [strsD, List.map_cons, PyData.depthAll, PyData.depth] at ih ⊢
    rw [ih]
    rfl
theorem strs_shaped {ws : List Str} (h : ∀ x ∈ ws, x ∈ WAYSL) : SeqAt.shaped (.list (strsD ws)) = true := by
  unfold SeqAt.shaped
  simp only [PyData.canLay0, PyData.depth, strs_lay ws h, strs_depth ws, Bool.true_and, decide_eq_true_eq]
  omega
theorem ok_kEq : FnOk P w K mg base CX0 3 T.kEq.f T.kEq.fd ["self", "other"] (spKEq T) := by
  refine T.kEq.F.ok sc_kEq (fun vs H Q E h => ?_) (fun cdv A outer s H vs Q E hr h => ?_)
  · obtain ⟨v, ws, u, zs, rfl, _⟩ := h
    rfl
  · obtain ⟨v, ws, u, zs, rfl, ⟨p, dx, l, rfl, h1, h2⟩, h3, hw, hz, k⟩ := h
    have gW : FnOk P w K mg base CX0 1 T.kWays.f T.kWays.fd ["self"] (spKWays T) := ok_kWays T
    have hr1 : Room 1 _ := hr.mono (by decide)
    refine ⟨_, pss_one (ps_ret (pe_and (pe_callB call_isi (by rfl) T.n_isinstance (by decide +kernel) (pa_cons (pv 1) (pa_cons (pe_glob (v := .ref T.kind.C) (by rfl) T.kind.mg rfl) pa_nil)))
      (pe_one (pe_cmpR (op_eqD hr.units) (pe_fld (pv 0) rfl) (pe_meth0 (pv 1) T.kind.cl T.kWays.m gW hr1 T.kWays.b .nil pass0) (nomark _))))), ?_⟩
    obtain ⟨q, dq, m, rfl, g1, g2⟩ := id h3
    refine ⟨_, rfl, _, _, _, _, true, rfl, .own T.kind.C, tyI T.kind g1, T.kind.sf, true, rfl, ?_⟩
    refine iteT ?_
    refine ⟨_, rfl, p, T.kind.C, dx, _, _, rfl, h1, T.kind.cl, T.a_its_ways, kf_w, _, rfl, q, dq, _, rfl, g1, kf_no (by decide +kernel), _, zs, rfl, h3, fun r nr => ?_⟩
    have s1 : Same H (upd H r (.lst (zs.map V.str))) := same_upd (Same.refl H) nr
    refine ⟨.list (strsD ws), .list (strsD zs), .lst (SqL.of (s1 _ _ h2)) (dpAll_strs ws), .lst (SqL.of upd_same) (dpAll_strs zs), strs_shaped hw, strs_shaped hz, ?_⟩
    show Q (V.bl (PyData.eqv (.list (strsD ws)) (.list (strsD zs)))) _
    simp only [PyData.eqv]
    rw [strsD_eqv]
    exact k _ s1
end
end Bk

/-! The walks: rows. -/
namespace Bk
open PySem L2 L2.BK

section
variable {P : Program} {w : World} {K : PySem.W.Frag} {mg : Str → Option Value} {base : Heap} (T : Txt P w K mg)
def tb (b : Bow) : Bow := (-b.2, -b.1)

/-! ### promises -/
def spTurnedBow (K : PySem.W.Frag) : Sp := fun vs H Q _ => ∃ v b, vs = [v] ∧ Dp K H v (bowD b) ∧ ∀ p, H p = none → Q (.ref p) (upd H p (.tup [.int (-b.2), .int (-b.1)]))
def spRInit : Sp := fun vs H Q _ => ∃ (p dx a : Addr) (us : List V) (bs : List Bow), vs = [.ref p, .ref a] ∧ H p = some (.ins T.row.C dx []) ∧ (SqL K H a us ∨ SqT K H a us) ∧ DpAll K H us (bowsD bs) ∧ (∀ b ∈ bs, okBow b) ∧ bs.length ≤ 1000 ∧
  ∀ H' l, H l = none → H' p = some (.ins T.row.C dx (rf l)) → H' l = some (.lst us) → Keep [p] H H' → Q .non H'
def spRBows : Sp := fun vs H Q _ => ∃ v bs, vs = [v] ∧ RowAt T H v bs ∧ ∀ p us, H p = none → DpAll K H us (bowsD bs) → (∀ F, Same F H → RowAt T F v bs → DpAll K F us (bowsD bs)) → Q (.ref p) (upd H p (.lst us))
def spRPut : Sp := fun vs H Q _ => ∃ v bs u b, vs = [v, u] ∧ RowAt T H v bs ∧ Dp K H u (bowD b) ∧ (∀ b ∈ bs, okBow b) ∧ okBow b ∧ bs.length ≤ 900 ∧
  ∀ H' r, Same H H' → (∀ M, Dom M H → RowAt T (hide M H) v bs → Dp K (hide M H) u (bowD b) → RowAt T (hide M H') r (bs ++ [b])) → Q r H'
def spRTurned : Sp := fun vs H Q _ => ∃ v bs, vs = [v] ∧ RowAt T H v bs ∧ (∀ b ∈ bs, okBow b) ∧ bs.length ≤ 900 ∧ ∀ H' r, Same H H' → (∀ M, Dom M H → RowAt T (hide M H') r (bs.map tb)) → Q r H'
def spREq : Sp := fun vs H Q _ => ∃ v bs u cs, vs = [v, u] ∧ RowAt T H v bs ∧ RowAt T H u cs ∧ ∀ H', Same H H' → Q (.bl (decide (bs = cs))) H'

theorem rf_inj {l l' : Addr} (h : rf l = rf l') : l = l' := by
  have e : (rf l).lookup ("its_bows" : Str) = (rf l').lookup ("its_bows" : Str) := by rw [h]
  rw [rf_b, rf_b] at e
  injection e with e
  injection e
theorem kf_inj {l l' : Addr} (h : kf l = kf l') : l = l' := by
  have e : (kf l).lookup ("its_ways" : Str) = (kf l').lookup ("its_ways" : Str) := by rw [h]
  rw [kf_w, kf_w] at e
  injection e with e
  injection e
variable {T}
/-- the list of a row, in a part of the heap -/
theorem row_part {F H : Hp} {v : V} {bs : List Bow} {p dx l : Addr} {us : List V} (s : Same F H) (h : RowAt T F v bs) (ev : v = .ref p) (h1 : H p = some (.ins T.row.C dx (rf l))) (h2 : H l = some (.lst us)) : DpAll K F us (bowsD bs) := by
  obtain ⟨p', dx', l', us', e, g1, g2, g3⟩ := h
  rw [ev] at e
  cases e
  have e1 := s _ _ g1
  rw [h1] at e1
  injection e1 with e1
  injection e1 with _ _ e1
  have e2 := rf_inj e1
  subst e2
  have e3 := s _ _ g2
  rw [h2] at e3
  injection e3 with e3
  injection e3 with e3
  subst e3
  exact g3
theorem okBow_tb {b : Bow} (h : okBow b) : okBow (tb b) := by
  obtain ⟨h1, h2, h3⟩ := h
  refine ⟨?_, ?_, ?_⟩
  · show -b.2 < -b.1
    omega
  · show -Big ≤ -b.2
    omega
  · show -b.1 ≤ Big
    omega
theorem bows_lay : ∀ bs : List Bow, PyData.canLayAll0 (bowsD bs) = true
  | [] => rfl
  | b :: bs => by
    have ih := bows_lay bs
    simp only [bowsD, List.map_cons, PyData.canLayAll0, bowD, PyData.canLay0, Bool.true_and] at ih ⊢
    exact ih
theorem bows_depth : ∀ bs : List Bow, PyData.depthAll (bowsD bs) ≤ 1
  | [] => by simp [bowsD, PyData.depthAll]
  | b :: bs => by
    have ih := bows_depth bs
    have e : PyData.depthAll (bowsD (b :: bs)) = Nat.max (PyData.depth (bowD b)) (PyData.depthAll (bowsD bs)) := rfl
    have e2 : PyData.depth (bowD b) = 1 := by simp [bowD, PyData.depth, PyData.depthAll]
    rw [e, e2]
    exact Nat.max_le.mpr ⟨Nat.le_refl _, ih⟩
theorem bows_shaped (bs : List Bow) : SeqAt.shaped (.list (bowsD bs)) = true := by
  have h := bows_depth bs
  have e : PyData.depth (.list (bowsD bs)) ≤ 64 := by
    simp only [PyData.depth]
    omega
  show (PyData.canLay0 (.list (bowsD bs)) && decide (PyData.depth (.list (bowsD bs)) ≤ 64)) = true
  rw [decide_eq_true e, Bool.and_true]
  simp only [PyData.canLay0, bows_lay bs]
theorem rMk : Mk K T.row.C T.rInit.f := ⟨T.row.makes, T.rInit.m.at_, T.rInit.m.fn, T.row.kp⟩
/-- Row(xs), behind its argument -/
theorem made_row {H : Hp} {Q : VK} {E : XK} {a : Addr} {us : List V} {bs : List Bow} (hs : SqL K H a us ∨ SqT K H a us) (hd : DpAll K H us (bowsD bs)) (hb : ∀ b ∈ bs, okBow b) (hl : bs.length ≤ 1000)
    (hQ : ∀ H2 u, Same H H2 → (∀ M, Dom M H → DpAll K (hide M H) us (bowsD bs) → RowAt T (hide M H2) u bs) → Q u H2) :
    ∀ x dx, H x = none → H dx = none → dx ≠ x → spRInit T [.ref x, .ref a] (upd (upd H dx (.own x)) x (.ins T.row.C dx [])) (fun v H2 => v = .non ∧ Q (.ref x) H2) E := fun x dx nx ndx ne => by
  have s0 : Same H (upd (upd H dx (.own x)) x (.ins T.row.C dx [])) := fun b o e => by
    rw [upd_ne (ne_of_none e nx), upd_ne (ne_of_none e ndx)]
    exact e
  have hs' := hs.imp (fun h => s0.seq h) fun h => Same.seqT s0 h
  refine ⟨x, dx, a, us, bs, rfl, upd_same, hs', dpAll_up s0 hd, hb, hl, fun H' l nl hp hw kp => ?_⟩
  have s1 : Same H H' := fun b o e => kp b o (fun z => ne_of_none e nx (List.mem_singleton.mp z)) (s0 b o e)
  exact ⟨rfl, hQ H' _ s1 fun M d hd' => ⟨x, dx, l, us, rfl, hide_get (hide_new d nx) hp, hide_get (hide_new d (s0.free nl)) hw, dpAll_up (hide_up s1) hd'⟩⟩

variable (T)
theorem sc_turnedBow : FnScope ["bow"] ["bow"] (defScope s_turnedBow) := ⟨rfl, rfl, rfl, by decide +kernel, rfl, by decide +kernel, by decide +kernel⟩
theorem ok_turnedBow : FnOk P w K mg base CX0 1 T.turnedBow.f T.turnedBow.fd ["bow"] (spTurnedBow K) := by
  refine T.turnedBow.F.ok sc_turnedBow (fun vs H Q E h => ?_) (fun cdv A outer s H vs Q E hr h => ?_)
  · obtain ⟨v, b, rfl, _⟩ := h
    rfl
  · obtain ⟨v, b, rfl, hv, k⟩ := h
    obtain ⟨t, rfl, ht⟩ := bow_inv hv
    refine ⟨_, pss_one (ps_ret (pe_tup (pa_cons (pe_un un_neg (pe_ix ix_tup (pv 0) pe_int (fun _ _ => rfl))) (pa_cons (pe_un un_neg (pe_ix ix_tup (pv 0) pe_int (fun _ _ => rfl))) pa_nil)))), ?_⟩
    refine ⟨_, rfl, t, _, _, _, rfl, rfl, ht, rfl, _, rfl, _, rfl, t, _, _, _, rfl, rfl, ht, rfl, _, rfl, by show 2 ≤ sizeLine; decide, k⟩

theorem sc_rInit : FnScope ["self", "bows"] ["self", "bows"] (defScope s_rInit) := ⟨rfl, rfl, rfl, by decide +kernel, rfl, by decide +kernel, by decide +kernel⟩
theorem ok_rInit : FnOk P w K mg base CX0 5 T.rInit.f T.rInit.fd ["self", "bows"] (spRInit T) := by
  refine T.rInit.F.ok sc_rInit (fun vs H Q E h => ?_) (fun cdv A outer s H vs Q E hr h => ?_)
  · obtain ⟨p, dx, a, us, bs, rfl, _⟩ := h
    rfl
  · obtain ⟨p, dx, a, us, bs, rfl, hp, hs, hd, hb, hl, k⟩ := h
    have gA : FnOk P w K mg base CX0 4 T.areBows.f T.areBows.fd ["thing"] (spAreBows K) := ok_areBows T
    refine ⟨_, pss_cons (ps_if (pt_not (pt_val (pe_call gA hr (by rfl) T.areBows.mg T.areBows.F.kp T.areBows.b .nil pass0 (pa_cons (pv 1) pa_nil)))) pss_never pss_nil)
      (pss_one (ps_fld (pv 0) (pe_callTy call_list_of (by rfl) T.n_list (by decide +kernel) (pa_cons (pv 1) pa_nil)) rfl)), ?_⟩
    refine ⟨_, rfl, a, us, bs, rfl, hs, hd, hb, hl, fun H1 s1 => ⟨true, rfl, ?_⟩⟩
    refine iteF ?_
    refine ⟨_, rfl, a, us, rfl, hs.imp (fun h => s1.seq h) (fun h => Same.seqT s1 h), fun l nl => ?_⟩
    have s2 : Same H (upd H1 l (.lst us)) := same_upd s1 nl
    have hpl : p ≠ l := ne_of (s2 p _ hp) upd_same (by intro z; cases z)
    refine ⟨_, rfl, p, T.row.C, dx, [], rfl, s2 p _ hp, T.row.cl, T.a_its_bows, by decide, ?_⟩
    exact k _ l (s1.free nl) upd_same (by rw [upd_ne hpl.symm, upd_same]) (Keep.upd (.of s2) (.inl List.mem_cons_self))

theorem sc_rBows : FnScope ["self"] ["self"] (defScope s_rBows) := ⟨rfl, rfl, rfl, by decide +kernel, rfl, by decide +kernel, by decide +kernel⟩
theorem ok_rBows : FnOk P w K mg base CX0 1 T.rBows.f T.rBows.fd ["self"] (spRBows T) := by
  refine T.rBows.F.ok sc_rBows (fun vs H Q E h => ?_) (fun cdv A outer s H vs Q E hr h => ?_)
  · obtain ⟨v, bs, rfl, _⟩ := h
    rfl
  · obtain ⟨v, bs, rfl, ⟨p, dx, l, us, rfl, h1, h2, h3⟩, k⟩ := h
    refine ⟨_, pss_one (ps_ret (pe_callTy call_list_of (by rfl) T.n_list (by decide +kernel) (pa_cons (pe_fld (pv 0) rfl) pa_nil))), ?_⟩
    exact ⟨_, rfl, p, T.row.C, dx, _, _, rfl, h1, T.row.cl, T.a_its_bows, rf_b, l, _, rfl, .inl (SqL.of h2), fun r nr => k r us nr h3 fun F s hF => row_part s hF rfl h1 h2⟩

theorem sc_rPut : FnScope ["self", "bow"] ["self", "bow"] (defScope s_rPut) := ⟨rfl, rfl, rfl, by decide +kernel, rfl, by decide +kernel, by decide +kernel⟩
theorem ok_rPut : FnOk P w K mg base CX0 7 T.rPut.f T.rPut.fd ["self", "bow"] (spRPut T) := by
  refine T.rPut.F.ok sc_rPut (fun vs H Q E h => ?_) (fun cdv A outer s H vs Q E hr h => ?_)
  · obtain ⟨v, bs, u, b, rfl, _⟩ := h
    rfl
  · obtain ⟨v, bs, u, b, rfl, hR, hu, hb, ob, hl, k⟩ := h
    obtain ⟨p, dx, l, us, rfl, h1, h2, h3⟩ := id hR
    have gB : FnOk P w K mg base CX0 3 T.isBow.f T.isBow.fd ["thing"] (spIsBow K) := ok_isBow T
    have gR : FnOk P w K mg base CX0 5 T.rInit.f T.rInit.fd ["self", "bows"] (spRInit T) := ok_rInit T
    have hr3 : Room 3 _ := hr.mono (by decide)
    refine ⟨_, pss_cons (ps_if (pt_not (pt_val (pe_call gB hr3 (by rfl) T.isBow.mg T.isBow.F.kp T.isBow.b .nil pass0 (pa_cons (pv 1) pa_nil)))) pss_never pss_nil)
      (pss_one (ps_ret (pe_make rMk gR hr (by rfl) T.row.mg T.rInit.b .nil pass0 (pa_cons (pe_lst (StX.pa_star (pe_fld (pv 0) rfl) (pa_cons (pv 1) pa_nil))) pa_nil)))), ?_⟩
    refine ⟨_, rfl, _, b, rfl, hu, ob, true, rfl, ?_⟩
    refine iteF ?_
    refine ⟨_, rfl, p, T.row.C, dx, _, _, rfl, h1, T.row.cl, T.a_its_bows, rf_b, l, us, rfl, .inr (SqL.of h2), _, rfl, ?_, fun r nr => ?_⟩
    · have e := (dpAll_len h3).trans (List.length_map _)
      rw [List.length_append, PySem.sizeLine_eq, e]
      show bs.length + 1 ≤ _
      omega
    have s1 : Same H (upd H r (.lst (us ++ [u]))) := same_upd (Same.refl H) nr
    have hbb : bowsD (bs ++ [b]) = bowsD bs ++ [bowD b] := List.map_append
    refine made_row (T := T) (us := us ++ [u]) (bs := bs ++ [b]) (.inl (SqL.of upd_same)) (by rw [hbb]; exact dpAll_app (dpAll_up s1 h3) (.cons (dp_up s1 hu) .nil)) (fun x hx => ?_) (by rw [List.length_append]; show bs.length + 1 ≤ _; omega) fun H2 q s3 hk => ?_
    · rcases List.mem_append.mp hx with z | z
      · exact hb x z
      · rw [List.mem_singleton.mp z]
        exact ob
    · refine k H2 q (s1.trans s3) fun M hM hF hu' => hk M (hM.up s1) ?_
      rw [hbb]
      exact dpAll_app (dpAll_up (hide_up s1) (row_part hide_sub hF rfl h1 h2)) (.cons (dp_up (hide_up s1) hu') .nil)

theorem sc_rTurned : FnScope ["self", "bow"] ["self"] (defScope s_rTurned) := ⟨rfl, rfl, rfl, by decide +kernel, rfl, by decide +kernel, by decide +kernel⟩
theorem take_snoc {α : Type} {xs : List α} {i : Nat} (h : i < xs.length) : xs.take (i + 1) = xs.take i ++ [xs[i]] := by
  rw [List.take_add_one, List.getElem?_eq_getElem h]
  rfl
theorem turn_snoc (bs : List Bow) (i : Nat) (hi : i < bs.length) : bowsD ((bs.map tb).take (i + 1)) = bowsD ((bs.map tb).take i) ++ [bowD (tb bs[i])] := by
  rw [take_snoc (by rw [List.length_map]; exact hi)]
  unfold bowsD
  rw [List.map_append, List.getElem_map]
  rfl
theorem ok_rTurned : FnOk P w K mg base CX0 7 T.rTurned.f T.rTurned.fd ["self"] (spRTurned T) := by
  refine T.rTurned.F.ok sc_rTurned (fun vs H Q E h => ?_) (fun cdv A outer s H vs Q E hr h => ?_)
  · obtain ⟨v, bs, rfl, _⟩ := h
    rfl
  · obtain ⟨v, bs, rfl, ⟨p, dx, l, us, rfl, h1, h2, h3⟩, hb, hl, k⟩ := h
    have gB : FnOk P w K mg base CX0 1 T.turnedBow.f T.turnedBow.fd ["bow"] (spTurnedBow K) := ok_turnedBow T
    have gR : FnOk P w K mg base CX0 5 T.rInit.f T.rInit.fd ["self", "bows"] (spRInit T) := ok_rInit T
    have hr1 : Room 1 _ := hr.mono (by decide)
    have hlen : us.length = bs.length := (dpAll_len h3).trans (List.length_map _)
    refine ⟨_, pss_one (ps_ret (pe_make rMk gR hr (by rfl) T.row.mg T.rInit.b .nil pass0 (pa_cons (pe_lc (own := [("bow", 1)]) (g := gName 1) (tt := tYes) (by rfl) sc_rTurned.nd (pi_list (pe_fld (pv 0) rfl)) (blkOk_by (own := [("bow", 1)]) (N := ["self", "bow"]) (sc := defScope s_rTurned) (by decide +kernel))
          (fun _ _ _ _ _ => pg_name (i := 1) sc_rTurned.nd rfl (Or.inl rfl)) (fun _ _ _ _ _ => pts_nil)
          (fun _ _ _ _ _ => pe_call gB hr1 (by rfl) T.turnedBow.mg T.turnedBow.F.kp T.turnedBow.b .nil pass0 (pa_cons (pv 1) pa_nil))) pa_nil))), ?_⟩
    refine ⟨_, rfl, p, T.row.C, dx, _, _, rfl, h1, T.row.cl, T.a_its_bows, rf_b, l, rfl, ⟨us, SqL.of h2⟩, fun D hD => ?_⟩
    refine lc_list (K := K) (xs := us) (fun i H' => ∃ acc, Acc K [] H D H' acc (bowsD ((bs.map tb).take i))) ⟨[], Acc.start hD⟩ (fun i H' _ ⟨_, q⟩ => SqL.of (q.kp.same _ _ h2)) (fun i x H' hx q => ?_) (fun H' q => ?_)
    · obtain ⟨acc, A⟩ := q
      have hi : i < bs.length := by rw [← hlen]; exact (List.getElem?_eq_some_iff.mp hx).1
      obtain ⟨x', e1, hx'⟩ := dpAll_get (i := i) (d := bowD bs[i]) h3 (by unfold bowsD; rw [List.getElem?_map, List.getElem?_eq_getElem hi]; rfl)
      rw [hx] at e1
      cases e1
      refine ⟨rfl, yes (iteT ?_)⟩
      refine ⟨_, rfl, x, bs[i], rfl, dp_up A.kp.same hx', fun t nt => ?_⟩
      have hDt : D ≠ t := ne_of_none A.at_ nt
      have hAl := (dpAll_len (A.dat [] Dom.nil (by simp)))
      refine ⟨acc, by rw [upd_ne hDt]; exact A.at_, ?_, acc ++ [.ref t], ?_⟩
      · rw [hAl, PySem.sizeLine_eq]
        unfold bowsD
        rw [List.length_map, List.length_take]
        omega
      · rw [turn_snoc bs i hi]
        exact A.push (Kp.refl.upd (.inr nt)) fun M hM _ => bow_mk (b := tb bs[i]) (SqT.of (hide_get (hide_new (A.dom hM) nt) upd_same))
    · obtain ⟨acc, A⟩ := q
      have e : bowsD ((bs.map tb).take us.length) = bowsD (bs.map tb) := by rw [List.take_of_length_le (by rw [List.length_map, hlen]; exact Nat.le_refl _)]
      rw [e] at A
      have d0 : DpAll K H' acc (bowsD (bs.map tb)) := by
        have z := A.done [] Dom.nil (by simp)
        rw [hide_nil] at z
        exact z
      refine made_row (T := T) (.inl (SqL.of A.at_)) d0 (fun x hx => ?_) (by rw [List.length_map]; omega) fun H2 r s3 hk => k H2 r (A.kp.same.trans s3) fun M hM => hk M (A.kp.dom hM) (A.done M hM (by simp))
      obtain ⟨y, hy, rfl⟩ := List.mem_map.mp hx
      exact okBow_tb (hb y hy)

theorem sc_rEq : FnScope ["self", "other"] ["self", "other"] (defScope s_rEq) := ⟨rfl, rfl, rfl, by decide +kernel, rfl, by decide +kernel, by decide +kernel⟩
theorem ok_rEq : FnOk P w K mg base CX0 3 T.rEq.f T.rEq.fd ["self", "other"] (spREq T) := by
  refine T.rEq.F.ok sc_rEq (fun vs H Q E h => ?_) (fun cdv A outer s H vs Q E hr h => ?_)
  · obtain ⟨v, ws, u, zs, rfl, _⟩ := h
    rfl
  · obtain ⟨v, bs, u, cs, rfl, ⟨p, dx, l, us, rfl, h1, h2, h2'⟩, h3, k⟩ := h
    have gW : FnOk P w K mg base CX0 1 T.rBows.f T.rBows.fd ["self"] (spRBows T) := ok_rBows T
    have hr1 : Room 1 _ := hr.mono (by decide)
    refine ⟨_, pss_one (ps_ret (pe_and (pe_callB call_isi (by rfl) T.n_isinstance (by decide +kernel) (pa_cons (pv 1) (pa_cons (pe_glob (v := .ref T.row.C) (by rfl) T.row.mg rfl) pa_nil)))
      (pe_one (pe_cmpR (op_eqD hr.units) (pe_fld (pv 0) rfl) (pe_meth0 (pv 1) T.row.cl T.rBows.m gW hr1 T.rBows.b .nil pass0) (nomark _))))), ?_⟩
    obtain ⟨q, dq, m, zs, rfl, g1, g2, g3⟩ := id h3
    refine ⟨_, rfl, _, _, _, _, true, rfl, .own T.row.C, tyI T.row g1, T.row.sf, true, rfl, ?_⟩
    refine iteT ?_
    refine ⟨_, rfl, p, T.row.C, dx, _, _, rfl, h1, T.row.cl, T.a_its_bows, rf_b, _, rfl, q, dq, _, rfl, g1, rf_no (by decide +kernel), _, cs, rfl, h3, fun r xs nr hx _ => ?_⟩
    have s1 : Same H (upd H r (.lst xs)) := same_upd (Same.refl H) nr
    refine ⟨.list (bowsD bs), .list (bowsD cs), .lst (SqL.of (s1 _ _ h2)) (dpAll_up s1 h2'), .lst (SqL.of upd_same) (dpAll_up s1 hx), bows_shaped bs, bows_shaped cs, ?_⟩
    show Q (V.bl (PyData.eqv (.list (bowsD bs)) (.list (bowsD cs)))) _
    simp only [PyData.eqv]
    rw [bowsD_eqv]
    exact k _ s1
end
end Bk

/-! The walks: edits. -/
namespace Bk
open PySem L2 L2.BK

theorem cT {c : Bool} {A B : Prop} (h : c = true) (x : A) : if c = true then A else B := by rw [if_pos h]; exact x
theorem cF {c : Bool} {A B : Prop} (h : c = false) (x : B) : if c = true then A else B := by rw [if_neg (by rw [h]; exact Bool.false_ne_true)]; exact x
def stepR : Ed → List Bow → List Bow
  | .turn, bs => bs.map tb
  | .row bs', _ => bs'
  | .put b, bs => bs ++ [b]
  | _, bs => bs
def stepK : Ed → List Str → List Str
  | .turn, ws => canon fun x => ws.contains (exch x)
  | .let_ w, ws => canon fun x => ws.contains x || decide (x = w)
  | .bar w, ws => canon fun x => ws.contains x && !decide (x = w)
  | _, ws => ws
theorem step_eq (e : Ed) (s : Stt) : step e s = (stepR e s.1, stepK e s.2) := by cases e <;> rfl

section
variable {P : Program} {w : World} {K : PySem.W.Frag} {mg : Str → Option Value} {base : Heap} (T : Txt P w K mg)

/-! ### promises -/
def spIsEdit (K : PySem.W.Frag) : Sp := fun vs H Q _ => ∃ v e, vs = [v] ∧ EdV K H v e ∧ okEd e ∧ ∀ H', Same H H' → Q (.bl true) H'
def spEdRow : Sp := fun vs H Q _ => ∃ M r bs v e, vs = [r, v] ∧ Dom M H ∧ RowAt T (hide M H) r bs ∧ Dp K (hide M H) v (edD e) ∧ okEd e ∧ (∀ b ∈ bs, okBow b) ∧ bs.length ≤ 900 ∧
  ∀ H' r', Same H H' → RowAt T (hide M H') r' (stepR e bs) → Q r' H'
def spEdKind : Sp := fun vs H Q _ => ∃ M k ws v e, vs = [k, v] ∧ Dom M H ∧ KindAt T (hide M H) k ws ∧ Dp K (hide M H) v (edD e) ∧ okEd e ∧ (∀ x ∈ ws, x ∈ WAYSL) ∧ ws = canon (fun x => ws.contains x) ∧
  ∀ H' k', Same H H' → KindAt T (hide M H') k' (stepK e ws) → Q k' H'

/-- an edit as it is handed in: its tuple, the tag first -/
theorem edV_inv {H : Hp} {v : V} {e : Ed} (h : EdV K H v e) : ∃ t us, v = .ref t ∧ SqT K H t (.str (tag e) :: us) ∧ us.length = (tailD e).length ∧
    match e with
    | .turn => us = []
    | .let_ x => us = [.str x]
    | .bar x => us = [.str x]
    | .row bs => ∃ a xs, us = [.ref a] ∧ (SqL K H a xs ∨ SqT K H a xs) ∧ DpAll K H xs (bowsD bs)
    | .put b => ∃ u, us = [u] ∧ Dp K H u (bowD b) := by
  rcases h with h | ⟨bs, rfl, h⟩
  · obtain ⟨t, us, rfl, h1, h2⟩ := ed_inv h
    refine ⟨t, us, rfl, h1, dpAll_len h2, ?_⟩
    cases e with
    | turn => cases h2; rfl
    | let_ x =>
      cases h2 with
      | cons a b => cases a; cases b; rfl
    | bar x =>
      cases h2 with
      | cons a b => cases a; cases b; rfl
    | row bs =>
      cases h2 with
      | cons a b =>
        cases b
        obtain ⟨a', xs, rfl, g1, g2⟩ := tup_inv a
        exact ⟨a', xs, rfl, .inr g1, g2⟩
    | put b =>
      cases h2 with
      | cons a b => cases b; exact ⟨_, rfl, a⟩
  · obtain ⟨t, us, rfl, h1, h2⟩ := tup_inv h
    cases h2 with
    | cons a b =>
      cases a
      cases b with
      | cons a b =>
        cases b
        obtain ⟨a', xs, rfl, g1, g2⟩ := lst_inv a
        exact ⟨t, _, rfl, h1, rfl, a', xs, rfl, .inl g1, g2⟩

theorem lensOf (e : Ed) : ∃ t, PySem.W.nsIn K T.lens (tag e) = some (some (.int (((tailD e).length + 1 : Nat) : Int) t)) := by
  cases e with
  | turn => exact T.len5
  | let_ x => exact T.len3
  | bar x => exact T.len4
  | row bs => exact T.len2
  | put b => exact T.len1
def tags : List Str := ["turn", "let", "bar", "row", "put"]
theorem tags_out : (tags.all fun x => !inV (.str x) [.str "out", .str "bow"]) = true := by decide +kernel
theorem tag_mem (e : Ed) : tag e ∈ tags := by cases e <;> simp [tag, tags]
theorem tag_out (e : Ed) : inV (.str (tag e)) [.str "out", .str "bow"] = false := by
  have z := List.all_eq_true.mp tags_out _ (tag_mem e)
  simpa using z
theorem two_flat : ([.str "out", .str "bow"] : List V).all flatV = true := rfl
theorem same_seqs {K : PySem.W.Frag} {H H' : Hp} {a : Addr} {xs : List V} (k : Same H H') (h : SqL K H a xs ∨ SqT K H a xs) : SqL K H' a xs ∨ SqT K H' a xs := h.imp (fun h => k.seq h) fun h => Same.seqT k h

theorem sc_isEdit : FnScope ["thing"] ["thing"] (defScope s_isEdit) := ⟨rfl, rfl, rfl, by decide +kernel, rfl, by decide +kernel, by decide +kernel⟩
theorem ok_isEdit : FnOk P w K mg base CX0 5 T.isEdit.f T.isEdit.fd ["thing"] (spIsEdit K) := by
  refine T.isEdit.F.ok sc_isEdit (fun vs H Q E h => ?_) (fun cdv A outer s H vs Q E hr h => ?_)
  · obtain ⟨v, e, rfl, _⟩ := h
    rfl
  · obtain ⟨v, e, rfl, hv, oe, k⟩ := h
    obtain ⟨t, us, rfl, ht, hul, hm⟩ := edV_inv hv
    obtain ⟨es, n, hD⟩ := T.vLens
    have gB : FnOk P w K mg base CX0 3 T.isBow.f T.isBow.fd ["thing"] (spIsBow K) := ok_isBow T
    have gS : FnOk P w K mg base CX0 4 T.areBows.f T.areBows.fd ["thing"] (spAreBows K) := ok_areBows T
    have gW : FnOk P w K mg base CX0 1 T.isWay.f T.isWay.fd ["thing"] spIsWay := ok_isWay T
    have hr3 : Room 3 _ := hr.mono (by decide)
    have hr1 : Room 1 _ := hr.mono (by decide)
    refine ⟨_, pss_cons (ps_if (PW.pt (pw_or (pt_not (pt_val (pe_callB call_isi (by rfl) T.n_isinstance (by decide +kernel) (pa_cons (pv 0) (pa_cons (pe_bltn (v := .ty "tuple") (by rfl) T.n_tuple (by decide +kernel) rfl) pa_nil)))))
        (pw_or (pt_cmpR op_eq (pe_callB call_len_seq (by rfl) T.n_len PySem.boot_len (pa_cons (pv 0) pa_nil)) pe_int (nomark _))
        (pw_or (pt_not (pt_val (pe_callB call_isi (by rfl) T.n_isinstance (by decide +kernel) (pa_cons (pe_ix ix_tup (pv 0) pe_int (fun _ _ => rfl)) (pa_cons (pe_bltn (v := .ty "str") (by rfl) T.n_str (by decide +kernel) rfl) pa_nil)))))
        (pw_or1 (pt_cmpR (op_notIn_kd hD) (pe_ix ix_tup (pv 0) pe_int (fun _ _ => rfl)) (pe_glob (v := .ref T.lens) (by rfl) T.mLens rfl) (by rfl))))))) pss_never pss_nil)
      (pss_cons (ps_if (pt_cmpR op_ne (pe_callB call_len_seq (by rfl) T.n_len PySem.boot_len (pa_cons (pv 0) pa_nil)) (pe_ix ix_kdict (pe_glob (v := .ref T.lens) (by rfl) T.mLens rfl) (pe_ix ix_tup (pv 0) pe_int (fun _ _ => rfl)) (fun _ _ => rfl)) (nomark _)) pss_never pss_nil)
      (pss_cons (ps_if (pt_cmpR op_eq (pe_ix ix_tup (pv 0) pe_int (fun _ _ => rfl)) pe_str (nomark _)) (pss_one (ps_ret (pe_call gB hr3 (by rfl) T.isBow.mg T.isBow.F.kp T.isBow.b .nil pass0 (pa_cons (pe_ix ix_tup (pv 0) pe_int (fun _ _ => rfl)) pa_nil)))) pss_nil)
      (pss_cons (ps_if (pt_cmpR op_in_seq (pe_ix ix_tup (pv 0) pe_int (fun _ _ => rfl)) (pe_tup (pa_cons pe_str (pa_cons pe_str pa_nil))) (by rfl)) pss_never pss_nil)
      (pss_cons (ps_if (pt_cmpR op_eq (pe_ix ix_tup (pv 0) pe_int (fun _ _ => rfl)) pe_str (nomark _)) (pss_one (ps_ret (pe_call gS hr (by rfl) T.areBows.mg T.areBows.F.kp T.areBows.b .nil pass0 (pa_cons (pe_ix ix_tup (pv 0) pe_int (fun _ _ => rfl)) pa_nil)))) pss_nil)
      (pss_one (ps_ret (pe_or (pe_cmpR op_eq (pe_ix ix_tup (pv 0) pe_int (fun _ _ => rfl)) pe_str (nomark _)) (pe_one (pe_call gW hr1 (by rfl) T.isWay.mg T.isWay.F.kp T.isWay.b .nil pass0 (pa_cons (pe_ix ix_tup (pv 0) pe_int (fun _ _ => rfl)) pa_nil)))))))))), ?_⟩
    obtain ⟨tk, hlen⟩ := lensOf T e
    have i0 : atI (.str (tag e) :: us) 0 = some (V.str (tag e)) := atI_nat (j := 0) rfl
    refine ⟨_, rfl, _, _, _, _, true, rfl, .ty "tuple", tyT ht, kit_ty (by decide +kernel), true, rfl, ?_⟩
    refine iteF ?_
    refine ⟨_, rfl, t, _, rfl, .inr ht, rfl, _, rfl, ?_⟩
    refine cF (decide_eq_false fun q => ?_) ?_
    · injection q with q
      rw [List.length_cons] at q
      omega
    refine ⟨_, rfl, t, _, _, _, rfl, rfl, ht, i0, _, _, _, _, true, rfl, .ty "str", .base (.str _), kit_ty (by decide +kernel), true, rfl, ?_⟩
    refine iteF ?_
    refine ⟨_, rfl, t, _, _, _, rfl, rfl, ht, i0, tag e, _, rfl, rfl, hlen, _, rfl, ?_⟩
    refine iteF ?_
    refine ⟨_, rfl, t, _, rfl, .inr ht, _, rfl, t, _, _, _, rfl, rfl, ht, i0, T.lens, tag e, .int (((tailD e).length + 1 : Nat) : Int), rfl, rfl, ⟨es, n, _, hD.at_, hD.lit, hlen, ⟨tk, rfl⟩⟩, rfl, _, rfl, ?_⟩
    refine cF ?_ ?_
    · rw [List.length_cons, hul]
      simp
    cases e with
    | turn =>
      subst hm
      have ht : SqT K H t [.str "turn"] := ht
      refine ⟨_, rfl, t, _, _, _, rfl, rfl, ht, rfl, rfl, _, rfl, ?_⟩
      refine cF (by decide +kernel) ?_
      refine ⟨_, rfl, t, _, _, _, rfl, rfl, ht, rfl, by show 2 ≤ sizeLine; decide, fun p np => ⟨p, _, rfl, .inr (SqT.of upd_same), rfl, two_flat, _, rfl, ?_⟩⟩
      refine cF (by decide +kernel) ?_
      have s1 : Same H (upd H p (.tup [.str "out", .str "bow"])) := same_upd (Same.refl H) np
      have ht := Same.seqT s1 ht
      refine ⟨_, rfl, t, _, _, _, rfl, rfl, ht, rfl, rfl, _, rfl, ?_⟩
      refine cF (by decide +kernel) ?_
      refine ⟨_, rfl, t, _, _, _, rfl, rfl, ht, rfl, rfl, true, ?_, ?_⟩
      · show V.bl (decide (V.str "turn" = V.str "turn")) = V.bl true
        rw [decide_eq_true rfl]
      refine iteT ?_
      exact k _ s1
    | let_ x =>
      subst hm
      have ht : SqT K H t [.str "let", .str x] := ht
      refine ⟨_, rfl, t, _, _, _, rfl, rfl, ht, rfl, rfl, _, rfl, ?_⟩
      refine cF (by decide +kernel) ?_
      refine ⟨_, rfl, t, _, _, _, rfl, rfl, ht, rfl, by show 2 ≤ sizeLine; decide, fun p np => ⟨p, _, rfl, .inr (SqT.of upd_same), rfl, two_flat, _, rfl, ?_⟩⟩
      refine cF (by decide +kernel) ?_
      have s1 : Same H (upd H p (.tup [.str "out", .str "bow"])) := same_upd (Same.refl H) np
      have ht := Same.seqT s1 ht
      refine ⟨_, rfl, t, _, _, _, rfl, rfl, ht, rfl, rfl, _, rfl, ?_⟩
      refine cF (by decide +kernel) ?_
      refine ⟨_, rfl, t, _, _, _, rfl, rfl, ht, rfl, rfl, false, ?_, ?_⟩
      · show V.bl (decide (V.str "let" = V.str "turn")) = V.bl false
        rw [decide_eq_false (by decide +kernel)]
      refine iteF ?_
      exact ⟨_, rfl, t, _, _, _, rfl, rfl, ht, rfl, x, rfl, oe, k _ s1⟩
    | bar x =>
      subst hm
      have ht : SqT K H t [.str "bar", .str x] := ht
      refine ⟨_, rfl, t, _, _, _, rfl, rfl, ht, rfl, rfl, _, rfl, ?_⟩
      refine cF (by decide +kernel) ?_
      refine ⟨_, rfl, t, _, _, _, rfl, rfl, ht, rfl, by show 2 ≤ sizeLine; decide, fun p np => ⟨p, _, rfl, .inr (SqT.of upd_same), rfl, two_flat, _, rfl, ?_⟩⟩
      refine cF (by decide +kernel) ?_
      have s1 : Same H (upd H p (.tup [.str "out", .str "bow"])) := same_upd (Same.refl H) np
      have ht := Same.seqT s1 ht
      refine ⟨_, rfl, t, _, _, _, rfl, rfl, ht, rfl, rfl, _, rfl, ?_⟩
      refine cF (by decide +kernel) ?_
      refine ⟨_, rfl, t, _, _, _, rfl, rfl, ht, rfl, rfl, false, ?_, ?_⟩
      · show V.bl (decide (V.str "bar" = V.str "turn")) = V.bl false
        rw [decide_eq_false (by decide +kernel)]
      refine iteF ?_
      exact ⟨_, rfl, t, _, _, _, rfl, rfl, ht, rfl, x, rfl, oe, k _ s1⟩
    | row bs =>
      obtain ⟨a, xs, rfl, hs, hd⟩ := hm
      have ht : SqT K H t [.str "row", .ref a] := ht
      refine ⟨_, rfl, t, _, _, _, rfl, rfl, ht, rfl, rfl, _, rfl, ?_⟩
      refine cF (by decide +kernel) ?_
      refine ⟨_, rfl, t, _, _, _, rfl, rfl, ht, rfl, by show 2 ≤ sizeLine; decide, fun p np => ⟨p, _, rfl, .inr (SqT.of upd_same), rfl, two_flat, _, rfl, ?_⟩⟩
      refine cF (by decide +kernel) ?_
      have s1 : Same H (upd H p (.tup [.str "out", .str "bow"])) := same_upd (Same.refl H) np
      have ht := Same.seqT s1 ht
      refine ⟨_, rfl, t, _, _, _, rfl, rfl, ht, rfl, rfl, _, rfl, ?_⟩
      refine cT (by decide +kernel) ?_
      exact ⟨_, rfl, t, _, _, _, rfl, rfl, ht, rfl, a, xs, bs, rfl, same_seqs s1 hs, dpAll_up s1 hd, oe.1, Nat.le_trans oe.2 (by decide), fun H' s2 => k _ (s1.trans s2)⟩
    | put b =>
      obtain ⟨u, rfl, hu⟩ := hm
      have ht : SqT K H t [.str "put", u] := ht
      refine ⟨_, rfl, t, _, _, _, rfl, rfl, ht, rfl, rfl, _, rfl, ?_⟩
      refine cT (by decide +kernel) ?_
      exact ⟨_, rfl, t, _, _, _, rfl, rfl, ht, rfl, u, b, rfl, hu, oe, k _ (Same.refl H)⟩

/-- an edit as it is told -/
theorem told_inv {H : Hp} {v : V} {e : Ed} (h : Dp K H v (edD e)) : ∃ t us, v = .ref t ∧ SqT K H t (.str (tag e) :: us) ∧ DpAll K H us (tailD e) := ed_inv h
theorem sc_edRow : FnScope ["row", "edit"] ["row", "edit"] (defScope s_edRow) := ⟨rfl, rfl, rfl, by decide +kernel, rfl, by decide +kernel, by decide +kernel⟩
theorem ok_edRow : FnOk P w K mg base CX0 9 T.edRow.f T.edRow.fd ["row", "edit"] (spEdRow T) := by
  refine T.edRow.F.ok sc_edRow (fun vs H Q E h => ?_) (fun cdv A outer s H vs Q E hr h => ?_)
  · obtain ⟨M, r, bs, v, e, rfl, _⟩ := h
    rfl
  · obtain ⟨M, r, bs, v, e, rfl, dM, hR0, hv, oe, hb, hl, k⟩ := h
    have hR := row_up hide_sub hR0
    obtain ⟨t, us, rfl, ht0, hd⟩ := told_inv hv
    have ht := Same.seqT hide_sub ht0
    obtain ⟨p, dx, l, xs, rfl, h1, h2, h3⟩ := id hR
    have gP : FnOk P w K mg base CX0 7 T.rPut.f T.rPut.fd ["self", "bow"] (spRPut T) := ok_rPut T
    have gT : FnOk P w K mg base CX0 7 T.rTurned.f T.rTurned.fd ["self"] (spRTurned T) := ok_rTurned T
    have gR : FnOk P w K mg base CX0 5 T.rInit.f T.rInit.fd ["self", "bows"] (spRInit T) := ok_rInit T
    have hr7 : Room 7 _ := hr.mono (by decide)
    have hr6 : Room (5 + 1) _ := hr.mono (by decide)
    refine ⟨_, pss_cons (ps_if (pt_cmpR op_eq (pe_ix ix_tup (pv 1) pe_int (fun _ _ => rfl)) pe_str (nomark _)) (pss_one (ps_ret (pe_meth (pv 0) T.row.cl T.rPut.m gP hr7 T.rPut.b .nil pass0 (pa_cons (pe_ix ix_tup (pv 1) pe_int (fun _ _ => rfl)) pa_nil)))) pss_nil)
      (pss_cons (ps_if (pt_cmpR op_eq (pe_ix ix_tup (pv 1) pe_int (fun _ _ => rfl)) pe_str (nomark _)) pss_never pss_nil)
      (pss_cons (ps_if (pt_cmpR op_eq (pe_ix ix_tup (pv 1) pe_int (fun _ _ => rfl)) pe_str (nomark _)) pss_never pss_nil)
      (pss_cons (ps_if (pt_cmpR op_eq (pe_ix ix_tup (pv 1) pe_int (fun _ _ => rfl)) pe_str (nomark _)) (pss_one (ps_ret (pe_make rMk gR hr6 (by rfl) T.row.mg T.rInit.b .nil pass0 (pa_cons (pe_ix ix_tup (pv 1) pe_int (fun _ _ => rfl)) pa_nil)))) pss_nil)
      (pss_one (ps_ret (pe_ifExp (pt_cmpR op_eq (pe_ix ix_tup (pv 1) pe_int (fun _ _ => rfl)) pe_str (nomark _)) (pe_meth0 (pv 0) T.row.cl T.rTurned.m gT hr7 T.rTurned.b .nil pass0) (pv 0))))))), ?_⟩
    have noP : (rf l).lookup ("put" : Str) = none := rf_no (by decide +kernel)
    have noT : (rf l).lookup ("turned" : Str) = none := rf_no (by decide +kernel)
    cases e with
    | turn =>
      cases hd
      have ht : SqT K H t [.str "turn"] := ht
      refine ⟨_, rfl, t, _, _, _, rfl, rfl, ht, rfl, rfl, _, rfl, cF (by decide +kernel) ?_⟩
      refine ⟨_, rfl, t, _, _, _, rfl, rfl, ht, rfl, rfl, _, rfl, cF (by decide +kernel) ?_⟩
      refine ⟨_, rfl, t, _, _, _, rfl, rfl, ht, rfl, rfl, _, rfl, cF (by decide +kernel) ?_⟩
      refine ⟨_, rfl, t, _, _, _, rfl, rfl, ht, rfl, rfl, _, rfl, cF (by decide +kernel) ?_⟩
      refine ⟨_, rfl, t, _, _, _, rfl, rfl, ht, rfl, rfl, _, rfl, cT (by decide +kernel) ?_⟩
      exact ⟨_, rfl, p, dx, _, rfl, h1, noT, _, bs, rfl, hR, hb, hl, fun H' r s1 hr' => k H' r s1 (hr' M dM)⟩
    | let_ x =>
      cases hd with
      | cons a b =>
        cases a
        cases b
        have ht : SqT K H t [.str "let", .str x] := ht
        refine ⟨_, rfl, t, _, _, _, rfl, rfl, ht, rfl, rfl, _, rfl, cF (by decide +kernel) ?_⟩
        refine ⟨_, rfl, t, _, _, _, rfl, rfl, ht, rfl, rfl, _, rfl, cF (by decide +kernel) ?_⟩
        refine ⟨_, rfl, t, _, _, _, rfl, rfl, ht, rfl, rfl, _, rfl, cF (by decide +kernel) ?_⟩
        refine ⟨_, rfl, t, _, _, _, rfl, rfl, ht, rfl, rfl, _, rfl, cF (by decide +kernel) ?_⟩
        refine ⟨_, rfl, t, _, _, _, rfl, rfl, ht, rfl, rfl, _, rfl, cF (by decide +kernel) ?_⟩
        exact ⟨_, rfl, k H _ (Same.refl H) hR0⟩
    | bar x =>
      cases hd with
      | cons a b =>
        cases a
        cases b
        have ht : SqT K H t [.str "bar", .str x] := ht
        refine ⟨_, rfl, t, _, _, _, rfl, rfl, ht, rfl, rfl, _, rfl, cF (by decide +kernel) ?_⟩
        refine ⟨_, rfl, t, _, _, _, rfl, rfl, ht, rfl, rfl, _, rfl, cF (by decide +kernel) ?_⟩
        refine ⟨_, rfl, t, _, _, _, rfl, rfl, ht, rfl, rfl, _, rfl, cF (by decide +kernel) ?_⟩
        refine ⟨_, rfl, t, _, _, _, rfl, rfl, ht, rfl, rfl, _, rfl, cF (by decide +kernel) ?_⟩
        refine ⟨_, rfl, t, _, _, _, rfl, rfl, ht, rfl, rfl, _, rfl, cF (by decide +kernel) ?_⟩
        exact ⟨_, rfl, k H _ (Same.refl H) hR0⟩
    | row cs =>
      cases hd with
      | cons a b =>
        cases b
        obtain ⟨a', ys, rfl, g1, g2⟩ := tup_inv a
        have ht : SqT K H t [.str "row", .ref a'] := ht
        refine ⟨_, rfl, t, _, _, _, rfl, rfl, ht, rfl, rfl, _, rfl, cF (by decide +kernel) ?_⟩
        refine ⟨_, rfl, t, _, _, _, rfl, rfl, ht, rfl, rfl, _, rfl, cF (by decide +kernel) ?_⟩
        refine ⟨_, rfl, t, _, _, _, rfl, rfl, ht, rfl, rfl, _, rfl, cF (by decide +kernel) ?_⟩
        refine ⟨_, rfl, t, _, _, _, rfl, rfl, ht, rfl, rfl, _, rfl, cT (by decide +kernel) ?_⟩
        refine ⟨_, rfl, t, _, _, _, rfl, rfl, ht, rfl, ?_⟩
        exact made_row (T := T) (.inr (Same.seqT hide_sub g1)) (dpAll_up hide_sub g2) oe.1 (Nat.le_trans oe.2 (by decide)) fun H2 u s1 hk => k H2 u s1 (hk M dM g2)
    | put b =>
      cases hd with
      | cons a c =>
        cases c
        rename_i u
        have ht : SqT K H t [.str "put", u] := ht
        refine ⟨_, rfl, t, _, _, _, rfl, rfl, ht, rfl, rfl, _, rfl, cT (by decide +kernel) ?_⟩
        exact ⟨_, rfl, p, dx, _, rfl, h1, noP, _, rfl, t, _, _, _, rfl, rfl, ht, rfl, _, bs, _, b, rfl, hR, dp_up hide_sub a, hb, oe, hl, fun H' r s1 hr' => k H' r s1 (hr' M dM hR0 a)⟩

theorem canonLe {ws : List Str} (h : ws = canon fun x => ws.contains x) : ws.length ≤ 7 := by rw [h]; exact len_canon _
theorem sc_edKind : FnScope ["kind", "edit"] ["kind", "edit"] (defScope s_edKind) := ⟨rfl, rfl, rfl, by decide +kernel, rfl, by decide +kernel, by decide +kernel⟩
theorem ok_edKind : FnOk P w K mg base CX0 9 T.edKind.f T.edKind.fd ["kind", "edit"] (spEdKind T) := by
  refine T.edKind.F.ok sc_edKind (fun vs H Q E h => ?_) (fun cdv A outer s H vs Q E hr h => ?_)
  · obtain ⟨M, r, bs, v, e, rfl, _⟩ := h
    rfl
  · obtain ⟨M, r, ws, v, e, rfl, dM, hR0, hv, oe, hw, hc, k⟩ := h
    have hl := canonLe hc
    have hR := kind_up hide_sub hR0
    obtain ⟨t, us, rfl, ht0, hd⟩ := told_inv hv
    have ht := Same.seqT hide_sub ht0
    obtain ⟨p, dx, l, rfl, h1, h2⟩ := id hR
    have gO : FnOk P w K mg base CX0 5 T.kOr.f T.kOr.fd ["self", "other"] (spKOr T) := ok_kOr T
    have gS : FnOk P w K mg base CX0 5 T.kSub.f T.kSub.fd ["self", "other"] (spKSub T) := ok_kSub T
    have gT : FnOk P w K mg base CX0 5 T.kTurned.f T.kTurned.fd ["self"] (spKTurned T) := ok_kTurned T
    have gK : FnOk P w K mg base CX0 3 T.kInit.f T.kInit.fd ["self", "ways"] (spKInit T) := ok_kInit T
    have hr5 : Room 5 _ := hr.mono (by decide)
    have hr4 : Room (3 + 1) _ := hr.mono (by decide)
    refine ⟨_, pss_cons (ps_if (pt_cmpR op_eq (pe_ix ix_tup (pv 1) pe_int (fun _ _ => rfl)) pe_str (nomark _)) (pss_one (ps_ret (pe_op (op_own rfl gO hr5 T.kOr.b pass0 T.kOr.m T.first) (pv 0) (pe_make kMk gK hr4 (by rfl) T.kind.mg T.kInit.b .nil pass0 (pa_cons (pe_lst (pa_cons (pe_ix ix_tup (pv 1) pe_int (fun _ _ => rfl)) pa_nil)) pa_nil))))) pss_nil)
      (pss_cons (ps_if (pt_cmpR op_eq (pe_ix ix_tup (pv 1) pe_int (fun _ _ => rfl)) pe_str (nomark _)) (pss_one (ps_ret (pe_op (op_own rfl gS hr5 T.kSub.b pass0 T.kSub.m T.first) (pv 0) (pe_make kMk gK hr4 (by rfl) T.kind.mg T.kInit.b .nil pass0 (pa_cons (pe_lst (pa_cons (pe_ix ix_tup (pv 1) pe_int (fun _ _ => rfl)) pa_nil)) pa_nil))))) pss_nil)
      (pss_one (ps_ret (pe_ifExp (pt_cmpR op_eq (pe_ix ix_tup (pv 1) pe_int (fun _ _ => rfl)) pe_str (nomark _)) (pe_meth0 (pv 0) T.kind.cl T.kTurned.m gT hr5 T.kTurned.b .nil pass0) (pv 0))))), ?_⟩
    have noT : (kf l).lookup ("turned" : Str) = none := kf_no (by decide +kernel)
    have one : ∀ {x : Str}, x ∈ WAYSL → ∀ y ∈ [x], y ∈ WAYSL := fun h y hy => by rw [List.mem_singleton.mp hy]; exact h
    cases e with
    | turn =>
      cases hd
      have ht : SqT K H t [.str "turn"] := ht
      refine ⟨_, rfl, t, _, _, _, rfl, rfl, ht, rfl, rfl, _, rfl, cF (by decide +kernel) ?_⟩
      refine ⟨_, rfl, t, _, _, _, rfl, rfl, ht, rfl, rfl, _, rfl, cF (by decide +kernel) ?_⟩
      refine ⟨_, rfl, t, _, _, _, rfl, rfl, ht, rfl, rfl, _, rfl, cT (by decide +kernel) ?_⟩
      exact ⟨_, rfl, p, dx, _, rfl, h1, noT, _, ws, rfl, hR, hw, hl, fun H' r s1 hr' => k H' r s1 (hr' M dM)⟩
    | let_ x =>
      cases hd with
      | cons a b =>
        cases a
        cases b
        have ht : SqT K H t [.str "let", .str x] := ht
        refine ⟨_, rfl, t, _, _, _, rfl, rfl, ht, rfl, rfl, _, rfl, cT (by decide +kernel) ?_⟩
        refine ⟨_, rfl, _, rfl, t, _, _, _, rfl, rfl, ht, rfl, by show 1 ≤ sizeLine; decide, fun q nq => ?_⟩
        have s1 : Same H (upd H q (.lst [.str x])) := same_upd (Same.refl H) nq
        refine made_kind (T := T) (Q := fun u H2 => rOwn T.kind.C (spKOr T) E0 (.ref p) u H2 Q) (H := upd H q (.lst [.str x])) (a := q) (zs := [x]) (SqL.of upd_same) (one oe) (by simp) fun H2 u s2 hk => ?_
        have z := hk [] Dom.nil
        rw [hide_nil] at z
        obtain ⟨q', dq, m, rfl, g1, g2⟩ := id z
        refine ⟨p, dx, _, q', dq, _, rfl, rfl, s2 _ _ (s1 _ _ h1), g1, _, ws, _, _, rfl, kind_up (s1.trans s2) hR, z, hw, hl, fun y hy => (mem_canon.mp hy).1, len_canon _, fun H' r s3 hr' => k H' r (s1.trans (s2.trans s3)) ?_⟩
        have e := hr' M (dM.up (s1.trans s2))
        rw [show stepK (.let_ x) ws = canon fun y => (ws ++ canon fun y => [x].contains y).contains y from canon_ext fun y hy => ?_]
        · exact e
        · rw [List.contains_append, contains_canon hy]
          simp [List.contains_cons, eq_comm]
    | bar x =>
      cases hd with
      | cons a b =>
        cases a
        cases b
        have ht : SqT K H t [.str "bar", .str x] := ht
        refine ⟨_, rfl, t, _, _, _, rfl, rfl, ht, rfl, rfl, _, rfl, cF (by decide +kernel) ?_⟩
        refine ⟨_, rfl, t, _, _, _, rfl, rfl, ht, rfl, rfl, _, rfl, cT (by decide +kernel) ?_⟩
        refine ⟨_, rfl, _, rfl, t, _, _, _, rfl, rfl, ht, rfl, by show 1 ≤ sizeLine; decide, fun q nq => ?_⟩
        have s1 : Same H (upd H q (.lst [.str x])) := same_upd (Same.refl H) nq
        refine made_kind (T := T) (Q := fun u H2 => rOwn T.kind.C (spKSub T) E0 (.ref p) u H2 Q) (H := upd H q (.lst [.str x])) (a := q) (zs := [x]) (SqL.of upd_same) (one oe) (by simp) fun H2 u s2 hk => ?_
        have z := hk [] Dom.nil
        rw [hide_nil] at z
        obtain ⟨q', dq, m, rfl, g1, g2⟩ := id z
        refine ⟨p, dx, _, q', dq, _, rfl, rfl, s2 _ _ (s1 _ _ h1), g1, _, ws, _, _, rfl, kind_up (s1.trans s2) hR, z, hw, hl, fun H' r s3 hr' => k H' r (s1.trans (s2.trans s3)) ?_⟩
        have e := hr' M (dM.up (s1.trans s2))
        rw [show stepK (.bar x) ws = canon fun y => (ws.filter fun y => !(canon fun y => [x].contains y).contains y).contains y from canon_ext fun y hy => ?_]
        · exact e
        · rw [Bool.eq_iff_iff, List.contains_iff_mem, List.mem_filter, contains_canon hy]
          simp [List.contains_cons]
    | row cs =>
      cases hd with
      | cons a b =>
        cases b
        obtain ⟨a', ys, rfl, g1, g2⟩ := tup_inv a
        have ht : SqT K H t [.str "row", .ref a'] := ht
        refine ⟨_, rfl, t, _, _, _, rfl, rfl, ht, rfl, rfl, _, rfl, cF (by decide +kernel) ?_⟩
        refine ⟨_, rfl, t, _, _, _, rfl, rfl, ht, rfl, rfl, _, rfl, cF (by decide +kernel) ?_⟩
        refine ⟨_, rfl, t, _, _, _, rfl, rfl, ht, rfl, rfl, _, rfl, cF (by decide +kernel) ?_⟩
        exact ⟨_, rfl, k H _ (Same.refl H) hR0⟩
    | put b =>
      cases hd with
      | cons a c =>
        cases c
        rename_i u
        have ht : SqT K H t [.str "put", u] := ht
        refine ⟨_, rfl, t, _, _, _, rfl, rfl, ht, rfl, rfl, _, rfl, cF (by decide +kernel) ?_⟩
        refine ⟨_, rfl, t, _, _, _, rfl, rfl, ht, rfl, rfl, _, rfl, cF (by decide +kernel) ?_⟩
        refine ⟨_, rfl, t, _, _, _, rfl, rfl, ht, rfl, rfl, _, rfl, cF (by decide +kernel) ?_⟩
        exact ⟨_, rfl, k H _ (Same.refl H) hR0⟩
end
end Bk

/-! Rules: what is never reached; a list against the empty one. -/
namespace L2.BK
open PySem PySem.Spec PyProof.Rows

section
variable {X : Cx} {e : Expr}
theorem pe_never : PE X e (fun _ _ _ => False) := ⟨fun _ _ _ _ _ _ h => h.elim⟩
theorem pt_never : PT X e (fun _ _ _ => False) := ⟨fun _ _ _ _ _ _ h => h.elim⟩

def rEqNil : R2 := fun x y H Q => ∃ a b xs, x = .ref a ∧ y = .ref b ∧ H a = some (.lst xs) ∧ H b = some (.lst []) ∧ Q (.bl xs.isEmpty) H
theorem op_eqNil (hu : X.A.units < cLine) : OpR X (compareOp .Eq) rEqNil := by
  intro pins s σ H x y v u Q I rx ry h
  obtain ⟨a, b, xs, rfl, rfl, ha, hb, q⟩ := h
  cases rx
  cases ry
  obtain ⟨us, r1, p1, _⟩ := I.list (SqL.of (K := X.K) ha)
  obtain ⟨ws, r2, p2, _⟩ := I.list (SqL.of (K := X.K) hb)
  cases r2
  show wpAny _ _ (richCompare .Eq _ _) _ _ _
  cases xs with
  | nil =>
    cases r1
    refine SeqAt.RcAt.lists (e := fun _ => true) p1.isList p2.isList rfl hu (fun j h1 h2 => absurd h1 (by simp)) _ _ _ _ ?_
    exact ⟨.bl true, H, I, rfl, q⟩
  | cons x xs =>
    cases r1 with
    | cons r rr =>
      refine SeqAt.RcAt.lists_lengths p1.isList p2.isList (by simp) hu _ _ _ _ ?_
      exact ⟨.bl false, H, I, rfl, q⟩
end
end L2.BK

/-! The walks: books, made, read, edited. -/
namespace Bk
open PySem L2 L2.BK

section
variable {P : Program} {w : World} {K : PySem.W.Frag} {mg : Str → Option Value} {base : Heap} (T : Txt P w K mg)
theorem upd_none {H : Hp} {p a : Addr} {o : HO} (h : upd H p o a = none) : a ≠ p ∧ H a = none := by
  have e : a ≠ p := by
    rintro rfl
    rw [upd_same] at h
    cases h
  exact ⟨e, by rw [upd_ne e] at h; exact h⟩
abbrev okEds (eds : List Ed) : Prop := ∀ e ∈ eds, okEd e
abbrev okSts (n : Nat) (sts : List Stt) : Prop := ∀ s ∈ sts, okSt n s

/-! ### promises -/
def spBInit : Sp := fun vs H Q _ => ∃ p dx r bs k ws, vs = [.ref p, r, k] ∧ H p = some (.ins T.book.C dx []) ∧ RowAt T H r bs ∧ KindAt T H k ws ∧
  ∀ H' (b : Bks) t, b.p = p → H b.ls = none → H b.le = none → H b.lu = none → H t = none → t ∉ b.fp → (b.ls ≠ b.le ∧ b.ls ≠ b.lu ∧ b.le ≠ b.lu) →
    H' b.p = some (.ins T.book.C dx (bf b.ls b.le b.lu)) → H' b.ls = some (.lst [.ref t]) → H' t = some (.tup [r, k]) → H' b.le = some (.lst []) → H' b.lu = some (.lst []) → Kp [p] H H' → Q .non H'
def spBRow : Sp := fun vs H Q _ => ∃ M b sts s eds und, vs = [.ref b.p] ∧ BookAt T M H b (sts ++ [s]) eds und ∧ ∀ v, RowAt T (hide M H) v s.1 → Q v H
def spBKind : Sp := fun vs H Q _ => ∃ M b sts s eds und, vs = [.ref b.p] ∧ BookAt T M H b (sts ++ [s]) eds und ∧ ∀ v, KindAt T (hide M H) v s.2 → Q v H
def spBLog : Sp := fun vs H Q _ => ∃ M b sts eds und, vs = [.ref b.p] ∧ BookAt T M H b sts eds und ∧ ∀ p us, H p = none → DpAll K (hide M H) us (eds.map edD) → Q (.ref p) (upd H p (.lst us))
def spBLen : Sp := fun vs H Q _ => ∃ M b sts eds und, vs = [.ref b.p] ∧ BookAt T M H b sts eds und ∧ Q (.int eds.length) H
def spBDo : Sp := fun vs H Q _ => ∃ M b sts s eds und v e, vs = [.ref b.p, v] ∧ Dom M H ∧ BookAt T M H b (sts ++ [s]) eds und ∧ EdV K (hide M H) v e ∧ okEd e ∧ okSt 900 s ∧ sts.length ≤ 900 ∧ eds.length ≤ 900 ∧
  ∀ H' lu', H lu' = none → Kp [b.p, b.ls, b.le] H H' → BookAt T (lu' :: M) H' { b with lu := lu' } ((sts ++ [s]) ++ [step e s]) (eds ++ [e]) [] → Q .non H'

variable {T}
theorem bMk : Mk K T.book.C T.bInit.f := ⟨T.book.makes, T.bInit.m.at_, T.bInit.m.fn, T.book.kp⟩
/-- Book(r, k), behind its arguments -/
theorem made_book {H : Hp} {Q : VK} {E : XK} {r k : V} {s : Stt} (hR : RowAt T H r s.1) (hK : KindAt T H k s.2)
    (hQ : ∀ H2 b, Same H H2 → (∀ a ∈ b.fp, H a = none) → (∀ M, Dom M H → RowAt T (hide M H) r s.1 → KindAt T (hide M H) k s.2 → BookAt T (b.fp ++ M) H2 b [s] [] []) → Q (.ref b.p) H2) :
    ∀ x dx, H x = none → H dx = none → dx ≠ x → spBInit T [.ref x, r, k] (upd (upd H dx (.own x)) x (.ins T.book.C dx [])) (fun v H2 => v = .non ∧ Q (.ref x) H2) E := fun x dx nx ndx ne => by
  have s0 : Same H (upd (upd H dx (.own x)) x (.ins T.book.C dx [])) := fun b o e => by
    rw [upd_ne (ne_of_none e nx), upd_ne (ne_of_none e ndx)]
    exact e
  refine ⟨x, dx, r, s.1, k, s.2, rfl, upd_same, row_up s0 hR, kind_up s0 hK, fun H' b t hp n1 n2 n3 n4 nt ap h1 h2 h3 h4 h5 kp => ?_⟩
  subst hp
  have s1 : Same H H' := fun a o e => kp.at (fun z => ne_of_none e nx (List.mem_singleton.mp z)) (s0 a o e)
  have m1 := s0.free n1
  have m2 := s0.free n2
  have m3 := s0.free n3
  have m4 := s0.free n4
  have fr : ∀ a ∈ b.fp, H a = none := by
    intro a ha
    simp only [Bks.fp, List.mem_cons, List.not_mem_nil, or_false] at ha
    rcases ha with rfl | rfl | rfl | rfl <;> assumption
  refine ⟨rfl, hQ H' b s1 fr fun M hM hR' hK' => ?_⟩
  have nM : t ∉ b.fp ++ M := fun z => by
    rcases List.mem_append.mp z with z | z
    · exact nt z
    · exact hide_new hM m4 z
  have up : Same (hide M H) (hide (b.fp ++ M) H') := hide_mono fun a o n e => ⟨fun z => by
    rcases List.mem_append.mp z with z | z
    · rw [fr a z] at e
      cases e
    · exact n z, s1 a o e⟩
  exact ⟨⟨dx, h1⟩, ⟨_, h2, .cons ⟨t, r, k, rfl, hide_get nM h3, row_up up hR', kind_up up hK'⟩ .nil⟩, ⟨_, h4, .nil⟩, ⟨_, h5, .nil⟩, ap, fun a ha => List.mem_append_left _ ha⟩

variable (T)
theorem sc_bInit : FnScope ["self", "row", "kind"] ["self", "row", "kind"] (defScope s_bInit) := ⟨rfl, rfl, rfl, by decide +kernel, rfl, by decide +kernel, by decide +kernel⟩
theorem ok_bInit : FnOk P w K mg base CX0 1 T.bInit.f T.bInit.fd ["self", "row", "kind"] (spBInit T) := by
  refine T.bInit.F.ok sc_bInit (fun vs H Q E h => ?_) (fun cdv A outer s H vs Q E hr h => ?_)
  · obtain ⟨p, dx, r, bs, k, ws, rfl, _⟩ := h
    rfl
  · obtain ⟨p, dx, r, bs, k, ws, rfl, hp, hR, hK, q⟩ := h
    obtain ⟨pr, dr, lr, ur, rfl, g1, g2, g3⟩ := hR
    obtain ⟨pk, dk, lk, rfl, f1, f2⟩ := hK
    refine ⟨_, pss_cons (ps_if (pt_not (pt_val (pe_callB call_isi (by rfl) T.n_isinstance (by decide +kernel) (pa_cons (pv 1) (pa_cons (pe_glob (v := .ref T.row.C) (by rfl) T.row.mg rfl) pa_nil))))) pss_never pss_nil)
      (pss_cons (ps_if (pt_not (pt_val (pe_callB call_isi (by rfl) T.n_isinstance (by decide +kernel) (pa_cons (pv 2) (pa_cons (pe_glob (v := .ref T.kind.C) (by rfl) T.kind.mg rfl) pa_nil))))) pss_never pss_nil)
      (pss_cons (ps_fld (pv 0) (pe_lst (pa_cons (pe_tup (pa_cons (pv 1) (pa_cons (pv 2) pa_nil))) pa_nil)) rfl)
      (pss_cons (ps_fld (pv 0) (pe_lst pa_nil) rfl)
      (pss_one (ps_fld (pv 0) (pe_lst pa_nil) rfl))))), ?_⟩
    refine ⟨_, rfl, _, _, _, _, true, rfl, .own T.row.C, tyI T.row g1, T.row.sf, true, rfl, ?_⟩
    refine iteF ?_
    refine ⟨_, rfl, _, _, _, _, true, rfl, .own T.kind.C, tyI T.kind f1, T.kind.sf, true, rfl, ?_⟩
    refine iteF ?_
    refine ⟨_, rfl, _, rfl, by show 2 ≤ sizeLine; decide, fun t nt => ⟨by show 1 ≤ sizeLine; decide, fun ls nls => ?_⟩⟩
    obtain ⟨lst, nls⟩ := upd_none nls
    have pt : p ≠ t := ne_of_none hp nt
    have pls : p ≠ ls := ne_of_none hp nls
    refine ⟨_, rfl, p, T.book.C, dx, [], rfl, by rw [upd_ne pls, upd_ne pt]; exact hp, T.book.cl, T.a_its_states, by decide, ?_⟩
    refine ⟨Nat.zero_le _, fun le nle => ?_⟩
    obtain ⟨lep, nle⟩ := upd_none nle
    obtain ⟨lels, nle⟩ := upd_none nle
    obtain ⟨let_, nle⟩ := upd_none nle
    refine ⟨_, rfl, p, T.book.C, dx, _, rfl, by rw [upd_ne lep.symm, upd_same], T.book.cl, T.a_its_edits, Nat.lt_of_le_of_lt (length_putF _ _ _) (by decide), ?_⟩
    refine ⟨Nat.zero_le _, fun lu nlu => ?_⟩
    obtain ⟨lup, nlu⟩ := upd_none nlu
    obtain ⟨lule, nlu⟩ := upd_none nlu
    obtain ⟨_, nlu⟩ := upd_none nlu
    obtain ⟨luls, nlu⟩ := upd_none nlu
    obtain ⟨lut, nlu⟩ := upd_none nlu
    refine ⟨_, rfl, p, T.book.C, dx, _, rfl, by rw [upd_ne lup.symm, upd_same], T.book.cl, T.a_its_undone, Nat.lt_of_le_of_lt (length_putF _ _ _) (Nat.lt_of_le_of_lt (Nat.succ_le_succ (length_putF _ _ _)) (by decide)), ?_⟩
    refine q _ ⟨p, ls, le, lu⟩ t rfl nls nle nlu nt ?_ ⟨lels.symm, luls.symm, lule.symm⟩ upd_same ?_ ?_ ?_ ?_ ?_
    · intro z
      simp only [Bks.fp, List.mem_cons, List.not_mem_nil, or_false] at z
      rcases z with z | z | z | z
      · exact pt z.symm
      · exact lst z.symm
      · exact let_ z.symm
      · exact lut z.symm
    · show upd _ p _ ls = _
      rw [upd_ne pls.symm, upd_ne luls.symm, upd_ne pls.symm, upd_ne lels.symm, upd_ne pls.symm, upd_same]
    · rw [upd_ne pt.symm, upd_ne lut.symm, upd_ne pt.symm, upd_ne let_.symm, upd_ne pt.symm, upd_ne lst.symm, upd_same]
    · show upd _ p _ le = _
      rw [upd_ne lep, upd_ne lule.symm, upd_ne lep, upd_same]
    · show upd _ p _ lu = _
      rw [upd_ne lup, upd_same]
    · refine Kp.upd (Kp.upd (Kp.upd (Kp.upd (Kp.upd (Kp.upd (Kp.upd Kp.refl (.inr nt)) (.inr ?_)) (.inl List.mem_cons_self)) (.inr ?_)) (.inl List.mem_cons_self)) (.inr ?_)) (.inl List.mem_cons_self)
      · rw [upd_ne lst]; exact nls
      · rw [upd_ne lep, upd_ne lels, upd_ne let_]; exact nle
      · rw [upd_ne lup, upd_ne lule, upd_ne lup, upd_ne luls, upd_ne lut]; exact nlu

theorem sc_self {st : Stmt} (h1 : (defScope st) = (defScope st)) : True := trivial
theorem sc_bRow : FnScope ["self"] ["self"] (defScope s_bRow) := ⟨rfl, rfl, rfl, by decide +kernel, rfl, by decide +kernel, by decide +kernel⟩
theorem ok_bRow : FnOk P w K mg base CX0 1 T.bRow.f T.bRow.fd ["self"] (spBRow T) := by
  refine T.bRow.F.ok sc_bRow (fun vs H Q E h => ?_) (fun cdv A outer s H vs Q E hr h => ?_)
  · obtain ⟨M, b, sts, s, eds, und, rfl, _⟩ := h
    rfl
  · obtain ⟨M, b, sts, st, eds, und, rfl, hB, q⟩ := h
    obtain ⟨dx, h1⟩ := hB.ob
    obtain ⟨vs, h2, h3⟩ := hB.st
    obtain ⟨us, v, rfl, h4, t, r, k, rfl, h5, h6, h7⟩ := paired_last h3
    refine ⟨_, pss_one (ps_ret (pe_ix ix_tup (pe_ix ix_list (pe_fld (pv 0) rfl) (pe_un un_neg pe_int) (fun _ _ => rfl)) pe_int (fun _ _ => rfl))), ?_⟩
    exact ⟨_, rfl, b.p, T.book.C, dx, _, _, rfl, h1, T.book.cl, T.a_its_states, bf_s, _, rfl, _, _, _, _, rfl, rfl, SqL.of h2, atI_last us _, t, _, _, _, rfl, rfl, SqT.of (hide_sub _ _ h5), atI_nat (j := 0) rfl, q _ h6⟩
theorem sc_bKind : FnScope ["self"] ["self"] (defScope s_bKind) := ⟨rfl, rfl, rfl, by decide +kernel, rfl, by decide +kernel, by decide +kernel⟩
theorem ok_bKind : FnOk P w K mg base CX0 1 T.bKind.f T.bKind.fd ["self"] (spBKind T) := by
  refine T.bKind.F.ok sc_bKind (fun vs H Q E h => ?_) (fun cdv A outer s H vs Q E hr h => ?_)
  · obtain ⟨M, b, sts, s, eds, und, rfl, _⟩ := h
    rfl
  · obtain ⟨M, b, sts, st, eds, und, rfl, hB, q⟩ := h
    obtain ⟨dx, h1⟩ := hB.ob
    obtain ⟨vs, h2, h3⟩ := hB.st
    obtain ⟨us, v, rfl, h4, t, r, k, rfl, h5, h6, h7⟩ := paired_last h3
    refine ⟨_, pss_one (ps_ret (pe_ix ix_tup (pe_ix ix_list (pe_fld (pv 0) rfl) (pe_un un_neg pe_int) (fun _ _ => rfl)) pe_int (fun _ _ => rfl))), ?_⟩
    exact ⟨_, rfl, b.p, T.book.C, dx, _, _, rfl, h1, T.book.cl, T.a_its_states, bf_s, _, rfl, _, _, _, _, rfl, rfl, SqL.of h2, atI_last us _, t, _, _, _, rfl, rfl, SqT.of (hide_sub _ _ h5), atI_nat (j := 1) rfl, q _ h7⟩
theorem sc_bLog : FnScope ["self"] ["self"] (defScope s_bLog) := ⟨rfl, rfl, rfl, by decide +kernel, rfl, by decide +kernel, by decide +kernel⟩
theorem ok_bLog : FnOk P w K mg base CX0 1 T.bLog.f T.bLog.fd ["self"] (spBLog T) := by
  refine T.bLog.F.ok sc_bLog (fun vs H Q E h => ?_) (fun cdv A outer s H vs Q E hr h => ?_)
  · obtain ⟨M, b, sts, eds, und, rfl, _⟩ := h
    rfl
  · obtain ⟨M, b, sts, eds, und, rfl, hB, q⟩ := h
    obtain ⟨dx, h1⟩ := hB.ob
    obtain ⟨vs, h2, h3⟩ := hB.ed
    refine ⟨_, pss_one (ps_ret (pe_callTy call_list_of (by rfl) T.n_list (by decide +kernel) (pa_cons (pe_fld (pv 0) rfl) pa_nil))), ?_⟩
    exact ⟨_, rfl, b.p, T.book.C, dx, _, _, rfl, h1, T.book.cl, T.a_its_edits, bf_e, b.le, _, rfl, .inl (SqL.of h2), fun r nr => q r vs nr h3⟩
theorem sc_bLen : FnScope ["self"] ["self"] (defScope s_bLen) := ⟨rfl, rfl, rfl, by decide +kernel, rfl, by decide +kernel, by decide +kernel⟩
theorem ok_bLen : FnOk P w K mg base CX0 1 T.bLen.f T.bLen.fd ["self"] (spBLen T) := by
  refine T.bLen.F.ok sc_bLen (fun vs H Q E h => ?_) (fun cdv A outer s H vs Q E hr h => ?_)
  · obtain ⟨M, b, sts, eds, und, rfl, _⟩ := h
    rfl
  · obtain ⟨M, b, sts, eds, und, rfl, hB, q⟩ := h
    obtain ⟨dx, h1⟩ := hB.ob
    obtain ⟨vs, h2, h3⟩ := hB.ed
    refine ⟨_, pss_one (ps_ret (pe_callB call_len_seq (by rfl) T.n_len PySem.boot_len (pa_cons (pe_fld (pv 0) rfl) pa_nil))), ?_⟩
    refine ⟨_, rfl, b.p, T.book.C, dx, _, _, rfl, h1, T.book.cl, T.a_its_edits, bf_e, b.le, _, rfl, .inl (SqL.of h2), ?_⟩
    have e := (dpAll_len h3).trans (List.length_map _)
    rw [e]
    exact q

theorem okSt_row {n : Nat} {s : Stt} (h : okSt n s) : (∀ b ∈ s.1, okBow b) ∧ s.1.length ≤ n := ⟨h.1, h.2.1⟩
theorem okSt_ways {n : Nat} {s : Stt} (h : okSt n s) : ∀ x ∈ s.2, x ∈ WAYSL := fun x hx => by
  rw [h.2.2] at hx
  exact (mem_canon.mp hx).1
theorem edV_dp {H : Hp} {v : V} {e : Ed} (h : EdV K H v e) (n : ∀ bs, e ≠ .row bs) : Dp K H v (edD e) := by
  rcases h with h | ⟨bs, e1, _⟩
  · exact h
  · exact absurd e1 (n bs)
theorem sc_bDo : FnScope ["self", "edit", "told"] ["self", "edit"] (defScope s_bDo) := ⟨rfl, rfl, rfl, by decide +kernel, rfl, by decide +kernel, by decide +kernel⟩
theorem ok_bDo : FnOk P w K mg base CX0 10 T.bDo.f T.bDo.fd ["self", "edit"] (spBDo T) := by
  refine T.bDo.F.ok sc_bDo (fun vs H Q E h => ?_) (fun cdv A outer s H vs Q E hr h => ?_)
  · obtain ⟨M, b, sts, st, eds, und, v, e, rfl, _⟩ := h
    rfl
  · obtain ⟨M, b, sts, st, eds, und, v, e, rfl, dM, hB, hv, oe, os, hls, hle, q⟩ := h
    have gI : FnOk P w K mg base CX0 5 T.isEdit.f T.isEdit.fd ["thing"] (spIsEdit K) := ok_isEdit T
    have gR : FnOk P w K mg base CX0 9 T.edRow.f T.edRow.fd ["row", "edit"] (spEdRow T) := ok_edRow T
    have gK : FnOk P w K mg base CX0 9 T.edKind.f T.edKind.fd ["kind", "edit"] (spEdKind T) := ok_edKind T
    have gr : FnOk P w K mg base CX0 1 T.bRow.f T.bRow.fd ["self"] (spBRow T) := ok_bRow T
    have gk : FnOk P w K mg base CX0 1 T.bKind.f T.bKind.fd ["self"] (spBKind T) := ok_bKind T
    have hr5 : Room 5 _ := hr.mono (by decide)
    have hr2 : Room (1 + 1) _ := hr.mono (by decide)
    obtain ⟨dx, hob⟩ := hB.ob
    obtain ⟨vs, hst, pst⟩ := hB.st
    obtain ⟨es, hed, ped⟩ := hB.ed
    obtain ⟨us, hun, pun⟩ := hB.un
    obtain ⟨ns, ne_, nu⟩ := hB.ne
    obtain ⟨ase, asu, aeu⟩ := hB.ap
    have mp : b.p ∈ M := hB.mem _ (by simp [Bks.fp])
    have ms : b.ls ∈ M := hB.mem _ (by simp [Bks.fp])
    have me : b.le ∈ M := hB.mem _ (by simp [Bks.fp])
    have lvs : vs.length = sts.length + 1 := by
      have := paired_len pst
      rw [List.length_append] at this
      exact this
    have les : es.length = eds.length := (dpAll_len ped).trans (List.length_map _)
    have tail : ∃ t, PSs (cxOf CX0 P w K mg base ["self", "edit", "told"] "Book.do" (defScope s_bDo) T.bDo.f cdv A outer s H E).nox (List.drop 2 (defBody s_bDo)) t ∧
        ∀ H1 v', Same H H1 → Dp K (hide M H1) v' (edD e) → t { nx := fun _ H' => Q .non H', rt := Q } [some (.ref b.p), some v, some v'] H1 := by
      refine ⟨_, pss_cons (ps_if (PW.pt (pw_and (pt_cmpR op_in_seq (pe_ix ix_tup (pv 2) pe_int (fun _ _ => rfl)) (pe_tup (pa_cons pe_str (pa_cons pe_str pa_nil))) (by rfl)) (pw_and1 pt_never))) pss_never pss_nil)
        (pss_cons (ps_expr (pe_bm PySem.F.plainAttrs_list PySem.F.slot_list_append PySem.F.type_list_append mt_append (pe_fld (pv 0) rfl)
            (pa_cons (pe_tup (pa_cons (pe_call gR hr (by rfl) T.edRow.mg T.edRow.F.kp T.edRow.b .nil pass0 (pa_cons (pe_prop (pv 0) T.book.cl T.bRow.m gr hr2 T.bRow.b .nil pass0 rfl) (pa_cons (pv 2) pa_nil)))
              (pa_cons (pe_call gK hr (by rfl) T.edKind.mg T.edKind.F.kp T.edKind.b .nil pass0 (pa_cons (pe_prop (pv 0) T.book.cl T.bKind.m gk hr2 T.bKind.b .nil pass0 rfl) (pa_cons (pv 2) pa_nil))) pa_nil))) pa_nil)))
        (pss_cons (ps_expr (pe_bm PySem.F.plainAttrs_list PySem.F.slot_list_append PySem.F.type_list_append mt_append (pe_fld (pv 0) rfl) (pa_cons (pv 2) pa_nil)))
        (pss_one (ps_fld (pv 0) (pe_lst pa_nil) rfl)))), fun H1 v' s1 hd => ?_⟩
      obtain ⟨tt, ws, rfl, ht0, htl⟩ := told_inv hd
      have ht := Same.seqT hide_sub ht0
      refine ⟨_, rfl, tt, _, _, _, rfl, rfl, ht, atI_nat (j := 0) rfl, by show 2 ≤ sizeLine; decide, fun z nz => ⟨z, _, rfl, .inr (SqT.of upd_same), rfl, two_flat, _, rfl, ?_⟩⟩
      refine cF (tag_out e) ?_
      have s2 : Same H (upd H1 z (.tup [.str "out", .str "bow"])) := same_upd s1 nz
      have hd2 : Dp K (hide M (upd H1 z (.tup [.str "out", .str "bow"]))) (.ref tt) (edD e) := dp_up (hide_up (same_upd (Same.refl H1) nz)) hd
      generalize upd H1 z (.tup [.str "out", .str "bow"]) = H2 at s2 hd2
      have B2 := hB.same s2
      have dM2 := dM.up s2
      refine ⟨_, rfl, b.p, T.book.C, dx, _, _, rfl, s2 _ _ hob, T.book.cl, T.a_its_states, bf_s, .inl ⟨rfl, _, SqL.of (s2 _ _ hst)⟩, ?_⟩
      refine ⟨_, rfl, b.p, dx, _, rfl, s2 _ _ hob, M, b, sts, st, eds, und, rfl, B2, fun r hr' => ?_⟩
      refine ⟨_, rfl, M, r, st.1, _, e, rfl, dM2, hr', hd2, oe, os.1, os.2.1, fun H3 r' s3 hr3 => ?_⟩
      refine ⟨_, rfl, b.p, dx, _, rfl, s3 _ _ (s2 _ _ hob), M, b, sts, st, eds, und, rfl, B2.same s3, fun k hk => ?_⟩
      refine ⟨_, rfl, M, k, st.2, _, e, rfl, dM2.up s3, hk, dp_up (hide_up s3) hd2, oe, okSt_ways os, os.2.2, fun H4 k' s4 hk4 => ?_⟩
      refine ⟨by show 2 ≤ sizeLine; decide, fun t nt => ?_⟩
      have s24 : Same H2 H4 := s3.trans s4
      have s5 : Same H4 (upd H4 t (.tup [r', k'])) := same_upd (Same.refl H4) nt
      have dM4 := dM2.up s24
      have hS : StAt T (hide M (upd H4 t (.tup [r', k']))) (.ref t) (step e st) := by
        rw [step_eq]
        exact ⟨t, r', k', rfl, hide_get (hide_new dM4 nt) upd_same, row_up (hide_up (s4.trans s5)) hr3, kind_up (hide_up s5) hk4⟩
      generalize upd H4 t (.tup [r', k']) = H5 at s5 hS
      have s6 : Same H H5 := s2.trans (s24.trans s5)
      have hd5 : Dp K (hide M H5) (.ref tt) (edD e) := dp_up (hide_up (s24.trans s5)) hd2
      refine ⟨b.ls, vs, _, rfl, rfl, s6 _ _ hst, by rw [lvs, PySem.sizeLine_eq]; omega, ?_⟩
      refine ⟨_, rfl, b.p, T.book.C, dx, _, _, rfl, by rw [upd_ne ns]; exact s6 _ _ hob, T.book.cl, T.a_its_edits, bf_e, .inl ⟨rfl, _, SqL.of (by rw [upd_ne ase.symm]; exact s6 _ _ hed)⟩, ?_⟩
      refine ⟨_, rfl, b.le, es, _, rfl, rfl, by rw [upd_ne ase.symm]; exact s6 _ _ hed, by rw [les, PySem.sizeLine_eq]; omega, ?_⟩
      refine ⟨Nat.zero_le _, fun lu nlu => ?_⟩
      obtain ⟨lue, nlu⟩ := upd_none nlu
      obtain ⟨lus, nlu⟩ := upd_none nlu
      have lup : lu ≠ b.p := (ne_of_none (s6 _ _ hob) nlu).symm
      refine ⟨_, rfl, b.p, T.book.C, dx, _, rfl, by rw [upd_ne lup.symm, upd_ne ne_, upd_ne ns]; exact s6 _ _ hob, T.book.cl, T.a_its_undone, bf_len, ?_⟩
      rw [bf_pu]
      have hh : Same (hide M H5) (hide (lu :: M) (upd (upd (upd (upd H5 b.ls (.lst (vs ++ [.ref t]))) b.le (.lst (es ++ [.ref tt]))) lu (.lst [])) b.p (.ins T.book.C dx (bf b.ls b.le lu)))) := hide_mono fun a o n e' => by
        have nl : a ≠ lu := ne_of_none e' nlu
        refine ⟨fun z => (List.mem_cons.mp z).elim nl n, ?_⟩
        rw [upd_ne (fun (z : a = b.p) => n (z ▸ mp)), upd_ne nl, upd_ne (fun (z : a = b.le) => n (z ▸ me)), upd_ne (fun (z : a = b.ls) => n (z ▸ ms))]
        exact e'
      refine q _ lu (s6.free nlu) ?_ ⟨⟨dx, upd_same⟩, ⟨vs ++ [.ref t], ?_, ?_⟩, ⟨es ++ [.ref tt], ?_, ?_⟩, ⟨[], ?_, .nil⟩, ⟨ase, lus.symm, lue.symm⟩, ?_⟩
      · refine Kp.upd (Kp.upd (Kp.upd (Kp.upd (.of s6) (.inl (by simp))) (.inl (by simp))) (.inr ?_)) (.inl (by simp))
        rw [upd_ne lue, upd_ne lus]
        exact nlu
      · show upd _ b.p _ b.ls = _
        rw [upd_ne ns.symm, upd_ne lus.symm, upd_ne ase, upd_same]
      · exact paired_app (paired_up (fun _ _ h => st_up ((hide_up s6).trans hh) h) pst) (.cons (st_up hh hS) .nil)
      · show upd _ b.p _ b.le = _
        rw [upd_ne ne_.symm, upd_ne lue.symm, upd_same]
      · rw [List.map_append]
        exact dpAll_app (dpAll_up ((hide_up s6).trans hh) ped) (.cons (dp_up hh hd5) .nil)
      · show upd _ b.p _ lu = _
        rw [upd_ne lup, upd_same]
      · intro a ha
        have ha' : a = b.p ∨ a = b.ls ∨ a = b.le ∨ a = lu := by simpa [Bks.fp] using ha
        rcases ha' with rfl | rfl | rfl | rfl
        · exact List.mem_cons_of_mem _ mp
        · exact List.mem_cons_of_mem _ ms
        · exact List.mem_cons_of_mem _ me
        · exact List.mem_cons_self
    obtain ⟨tl, hT, hGo⟩ := tail
    refine ⟨_, pss_cons (ps_if (pt_not (pt_val (pe_call gI hr5 (by rfl) T.isEdit.mg T.isEdit.F.kp T.isEdit.b .nil pass0 (pa_cons (pv 1) pa_nil)))) pss_never pss_nil)
      (pss_cons (ps_set (i := 2) sc_bDo.nd rfl (Or.inl rfl) (pe_ifExp (pt_cmpR op_eq (pe_ix ix_tup (pv 1) pe_int (fun _ _ => rfl)) pe_str (nomark _))
          (pe_tup (pa_cons pe_str (pa_cons (pe_callTy call_tuple_of (by rfl) T.n_tuple (by decide +kernel) (pa_cons (pe_ix ix_tup (pv 1) pe_int (fun _ _ => rfl)) pa_nil)) pa_nil))) (pv 1))) hT), ?_⟩
    have hvH : EdV K H v e := edV_up hide_sub hv
    refine ⟨_, rfl, v, e, rfl, hvH, oe, fun H1 s1 => ⟨true, rfl, ?_⟩⟩
    refine iteF ?_
    have hv1 : EdV K (hide M H1) v e := edV_up (hide_up s1) hv
    obtain ⟨t, us', rfl, ht0, hul, hm⟩ := edV_inv hv1
    have ht := Same.seqT hide_sub ht0
    refine ⟨_, rfl, t, _, _, _, rfl, rfl, ht, atI_nat (j := 0) rfl, rfl, _, rfl, ?_⟩
    cases e with
    | row bs =>
      refine cT (by show decide (V.str "row" = V.str "row") = true; decide +kernel) ?_
      obtain ⟨a, xs, rfl, hs, hd⟩ := hm
      refine ⟨_, rfl, t, _, _, _, rfl, rfl, ht, atI_nat (j := 1) rfl, a, xs, rfl, ?_⟩
      rcases hs with hs | hs
      · refine .inl ⟨hide_sub.seq hs, fun l nl => ⟨by show 2 ≤ sizeLine; decide, fun p np => ?_⟩⟩
        have s2 : Same H1 (upd H1 l (.tup xs)) := same_upd (Same.refl H1) nl
        have s3 : Same H1 (upd (upd H1 l (.tup xs)) p (.tup [.str "row", .ref l])) := same_upd s2 np
        have dM1 := dM.up s1
        refine hGo _ _ (s1.trans s3) (.tup (SqT.of (hide_get (hide_new dM1 (s2.free np)) upd_same)) (.cons (.str _) (.cons (.tup (xs := xs) (SqT.of (hide_get (hide_new dM1 nl) ?_)) (dpAll_up (hide_up s3) hd)) .nil)))
        rw [upd_ne (ne_of_none upd_same np)]
        exact upd_same
      · refine .inr ⟨Same.seqT hide_sub hs, ⟨by show 2 ≤ sizeLine; decide, fun p np => ?_⟩⟩
        have s3 : Same H1 (upd H1 p (.tup [.str "row", .ref a])) := same_upd (Same.refl H1) np
        have dM1 := dM.up s1
        exact hGo _ _ (s1.trans s3) (.tup (SqT.of (hide_get (hide_new dM1 np) upd_same)) (.cons (.str _) (.cons (.tup (Same.seqT (hide_up s3) hs) (dpAll_up (hide_up s3) hd)) .nil)))
    | turn =>
      refine cF (by show decide (V.str "turn" = V.str "row") = false; decide +kernel) ?_
      exact ⟨_, rfl, hGo H1 _ s1 (edV_dp hv1 fun _ z => by cases z)⟩
    | let_ x =>
      refine cF (by show decide (V.str "let" = V.str "row") = false; decide +kernel) ?_
      exact ⟨_, rfl, hGo H1 _ s1 (edV_dp hv1 fun _ z => by cases z)⟩
    | bar x =>
      refine cF (by show decide (V.str "bar" = V.str "row") = false; decide +kernel) ?_
      exact ⟨_, rfl, hGo H1 _ s1 (edV_dp hv1 fun _ z => by cases z)⟩
    | put x =>
      refine cF (by show decide (V.str "put" = V.str "row") = false; decide +kernel) ?_
      exact ⟨_, rfl, hGo H1 _ s1 (edV_dp hv1 fun _ z => by cases z)⟩
end
end Bk

/-! The walks: books, back and again, copied, compared. -/
namespace Bk
open PySem L2 L2.BK

theorem tags_ok : (tags.all fun x => PyData.strOk x) = true := by decide +kernel
theorem tag_ok (e : Ed) : PyData.strOk (tag e) = true := List.all_eq_true.mp tags_ok _ (tag_mem e)
theorem max_le {a b n : Nat} (h1 : a ≤ n) (h2 : b ≤ n) : Nat.max a b ≤ n := Nat.max_le.mpr ⟨h1, h2⟩
theorem ed_lay {e : Ed} (h : okEd e) : PyData.canLay0 (edD e) = true := by
  have t := tag_ok e
  cases e with
  | turn => simp only [edD, PyData.canLay0, PyData.canLayAll0, Bool.and_true]; exact t
  | let_ x => simp only [edD, PyData.canLay0, PyData.canLayAll0, Bool.and_true]; rw [way_ok h, Bool.and_true]; exact t
  | bar x => simp only [edD, PyData.canLay0, PyData.canLayAll0, Bool.and_true]; rw [way_ok h, Bool.and_true]; exact t
  | row bs => simp only [edD, PyData.canLay0, PyData.canLayAll0, Bool.and_true]; rw [bows_lay bs, Bool.and_true]; exact t
  | put b => simp only [edD, bowD, PyData.canLay0, PyData.canLayAll0, Bool.and_true]; exact t
theorem ed_depth (e : Ed) : PyData.depth (edD e) ≤ 3 := by
  cases e with
  | turn => simp [edD, PyData.depth, PyData.depthAll]
  | let_ x => simp [edD, PyData.depth, PyData.depthAll]
  | bar x => simp [edD, PyData.depth, PyData.depthAll]
  | row bs =>
    have h := bows_depth bs
    simp only [edD, PyData.depth, PyData.depthAll]
    have z : ∀ m, m ≤ 1 → 1 + Nat.max 0 (Nat.max (1 + m) 0) ≤ 3 := fun m hm => by
      have : Nat.max 0 (Nat.max (1 + m) 0) ≤ 2 := max_le (by omega) (max_le (by omega) (by omega))
      omega
    first | exact z _ h | (simp; omega)
  | put b => simp [edD, bowD, PyData.depth, PyData.depthAll]
theorem eds_lay : ∀ es : List Ed, okEds es → PyData.canLayAll0 (es.map edD) = true
  | [], _ => rfl
  | e :: es, h => by
    have ih := eds_lay es fun x hx => h x (List.mem_cons_of_mem _ hx)
    have t := ed_lay (h e List.mem_cons_self)
    show (PyData.canLay0 (edD e) && PyData.canLayAll0 (es.map edD)) = true
    rw [t, ih]
    rfl
theorem eds_depth : ∀ es : List Ed, PyData.depthAll (es.map edD) ≤ 3
  | [] => by simp [PyData.depthAll]
  | e :: es => by
    have ih := eds_depth es
    show Nat.max (PyData.depth (edD e)) (PyData.depthAll (es.map edD)) ≤ 3
    exact max_le (ed_depth e) ih
theorem eds_shaped {es : List Ed} (h : okEds es) : SeqAt.shaped (.list (es.map edD)) = true := by
  have d := eds_depth es
  have e : PyData.depth (.list (es.map edD)) ≤ 64 := by
    simp only [PyData.depth]
    omega
  show (PyData.canLay0 (.list (es.map edD)) && decide (PyData.depth (.list (es.map edD)) ≤ 64)) = true
  rw [decide_eq_true e, Bool.and_true]
  simp only [PyData.canLay0, eds_lay es h]
theorem ed_shaped {e : Ed} (h : okEd e) : SeqAt.shaped (edD e) = true := by
  have d := ed_depth e
  show (PyData.canLay0 (edD e) && decide (PyData.depth (edD e) ≤ 64)) = true
  rw [ed_lay h, decide_eq_true (by omega)]
  rfl

section
variable {P : Program} {w : World} {K : PySem.W.Frag} {mg : Str → Option Value} {base : Heap} (T : Txt P w K mg)

/-! ### promises -/
def spBBack : Sp := fun vs H Q E => ∃ M b sts eds und, vs = [.ref b.p] ∧ Dom M H ∧ BookAt T M H b sts eds und ∧
  ((eds = [] ∧ ∀ H', Same H H' → E (.ref T.cNot) none H') ∨
    ∃ eds' e sts' s, eds = eds' ++ [e] ∧ sts = sts' ++ [s] ∧ und.length ≤ 900 ∧ ∀ H' v, Kp [b.ls, b.le, b.lu] H H' → Dp K (hide M H') v (edD e) → BookAt T M H' b sts' eds' (und ++ [(e, s)]) → Q v H')
def spBAgain : Sp := fun vs H Q E => ∃ M b sts eds und, vs = [.ref b.p] ∧ Dom M H ∧ BookAt T M H b sts eds und ∧
  ((und = [] ∧ ∀ H', Same H H' → E (.ref T.cNot) none H') ∨
    ∃ und' e s, und = und' ++ [(e, s)] ∧ sts.length ≤ 900 ∧ eds.length ≤ 900 ∧ ∀ H' v, Kp [b.ls, b.le, b.lu] H H' → Dp K (hide M H') v (edD e) → BookAt T M H' b (sts ++ [s]) (eds ++ [e]) und' → Q v H')
def spBCopied : Sp := fun vs H Q _ => ∃ M b s sts eds und, vs = [.ref b.p] ∧ Dom M H ∧ BookAt T M H b (s :: sts) eds und ∧
  ∀ H' b', Same H H' → (∀ a ∈ b'.fp, H a = none) → BookAt T (b'.fp ++ M) H' b' (s :: sts) eds und → Q (.ref b'.p) H'
def spBEq : Sp := fun vs H Q _ => ∃ M b s sts eds und u, vs = [.ref b.p, u] ∧ BookAt T M H b (s :: sts) eds und ∧ okEds eds ∧ okSt 900 s ∧
  ((∃ M2 b2 s2 sts2 eds2 und2, u = .ref b2.p ∧ BookAt T M2 H b2 (s2 :: sts2) eds2 und2 ∧ okEds eds2 ∧ okSt 900 s2 ∧ ∀ H', Same H H' → Q (.bl (decide (eds = eds2 ∧ s = s2))) H') ∨
    ((u = .non ∨ ∃ a xs, u = .ref a ∧ SqL K H a xs) ∧ Q (.bl false) H))

theorem dpAll_last {H : Hp} {vs : List V} {eds : List Ed} {e : Ed} (h : DpAll K H vs ((eds ++ [e]).map edD)) : ∃ us v, vs = us ++ [v] ∧ DpAll K H us (eds.map edD) ∧ Dp K H v (edD e) := by
  obtain ⟨us, v, h1, h2, h3⟩ := paired_last (dp_paired h)
  exact ⟨us, v, h1, paired_dp h2, h3⟩
theorem last_get {α : Type} (us : List α) (v : α) : (us ++ [v])[(us ++ [v]).length - 1]? = some v := by simp

theorem sc_bBack : FnScope ["self", "edit"] ["self"] (defScope s_bBack) := ⟨rfl, rfl, rfl, by decide +kernel, rfl, by decide +kernel, by decide +kernel⟩
theorem ok_bBack : FnOk P w K mg base (L2.CX P w) 1 T.bBack.f T.bBack.fd ["self"] (spBBack T) := by
  refine T.bBack.F.okX sc_bBack (fun vs H Q E h => ?_) (fun cdv A outer s H vs Q E hr h => ?_)
  · obtain ⟨M, b, sts, eds, und, rfl, _⟩ := h
    rfl
  · obtain ⟨M, b, sts, eds, und, rfl, dM, hB, h⟩ := h
    obtain ⟨dx, hob⟩ := hB.ob
    obtain ⟨vs, hst, pst⟩ := hB.st
    obtain ⟨es, hed, ped⟩ := hB.ed
    obtain ⟨us, hun, pun⟩ := hB.un
    obtain ⟨ns, ne_, nu⟩ := hB.ne
    obtain ⟨ase, asu, aeu⟩ := hB.ap
    have mp : b.p ∈ M := hB.mem _ (by simp [Bks.fp])
    have ms : b.ls ∈ M := hB.mem _ (by simp [Bks.fp])
    have me : b.le ∈ M := hB.mem _ (by simp [Bks.fp])
    have mu : b.lu ∈ M := hB.mem _ (by simp [Bks.fp])
    have hu : (A.deeper (PyProof.Rows.envOfC ("Book.back" : Str) (defScope s_bBack) s.heap.objs.size T.bBack.f cdv)).units < cLine := by have := hr.units; omega
    refine ⟨_, pss_cons (ps_if (pt_cmpR (op_eqNil hu) (pe_fld (pv 0) rfl) (pe_lst pa_nil) (nomark _)) (pss_one (ps_raise rfl (takes_of rfl rfl rfl rfl) (pmk_own0 PySem.F.excBase_ValueError T.xNot T.mNot T.kNot (raises_own T.bNot T.tNot) (by rfl)))) pss_nil)
      (pss_cons (ps_set (i := 1) sc_bBack.nd rfl (Or.inl rfl) (pe_bm0 PySem.F.plainAttrs_list PySem.F.slot_list_pop PySem.F.type_list_pop mt_pop (pe_fld (pv 0) rfl)))
      (pss_cons (ps_expr (pe_bm PySem.F.plainAttrs_list PySem.F.slot_list_append PySem.F.type_list_append mt_append (pe_fld (pv 0) rfl)
          (pa_cons (pe_tup (pa_cons (pv 1) (pa_cons (pe_bm0 PySem.F.plainAttrs_list PySem.F.slot_list_pop PySem.F.type_list_pop mt_pop (pe_fld (pv 0) rfl)) pa_nil))) pa_nil)))
      (pss_one (ps_ret (pv 1))))), ?_⟩
    refine ⟨_, rfl, b.p, T.book.C, dx, _, _, rfl, hob, T.book.cl, T.a_its_edits, bf_e, Nat.zero_le _, fun n0 nn => ?_⟩
    have s0 : Same H (upd H n0 (.lst [])) := same_upd (Same.refl H) nn
    refine ⟨b.le, n0, es, rfl, rfl, s0 _ _ hed, upd_same, _, rfl, ?_⟩
    generalize upd H n0 (.lst []) = H0 at s0
    rcases h with ⟨rfl, hE⟩ | ⟨eds', e, sts', st, rfl, rfl, hul, q⟩
    · cases ped
      exact cT rfl (hE _ s0)
    · obtain ⟨es', ve, rfl, p1, p2⟩ := dpAll_last ped
      obtain ⟨vs', vst, rfl, p3, p4⟩ := paired_last pst
      refine cF (by simp) ?_
      refine ⟨_, rfl, b.p, T.book.C, dx, _, _, rfl, s0 _ _ hob, T.book.cl, T.a_its_edits, bf_e, .inl ⟨rfl, _, SqL.of (s0 _ _ hed)⟩, b.le, _, ve, rfl, rfl, s0 _ _ hed, last_get es' ve, ?_⟩
      rw [List.dropLast_concat]
      refine ⟨_, rfl, b.p, T.book.C, dx, _, _, rfl, by rw [upd_ne ne_]; exact s0 _ _ hob, T.book.cl, T.a_its_undone, bf_u, .inl ⟨rfl, _, SqL.of (by rw [upd_ne aeu.symm]; exact s0 _ _ hun)⟩, ?_⟩
      refine ⟨_, rfl, _, rfl, b.p, T.book.C, dx, _, _, rfl, by rw [upd_ne ne_]; exact s0 _ _ hob, T.book.cl, T.a_its_states, bf_s, .inl ⟨rfl, _, SqL.of (by rw [upd_ne ase]; exact s0 _ _ hst)⟩, b.ls, _, vst, rfl, rfl, by rw [upd_ne ase]; exact s0 _ _ hst, last_get vs' vst, ?_⟩
      rw [List.dropLast_concat]
      refine ⟨by show 2 ≤ sizeLine; decide, fun t nt => ?_⟩
      obtain ⟨ts, nt⟩ := upd_none nt
      obtain ⟨te, nt⟩ := upd_none nt
      have tu : t ≠ b.lu := (ne_of_none (s0 _ _ hun) nt).symm
      have tp : t ≠ b.p := (ne_of_none (s0 _ _ hob) nt).symm
      refine ⟨b.lu, us, _, rfl, rfl, by rw [upd_ne tu.symm, upd_ne asu.symm, upd_ne aeu.symm]; exact s0 _ _ hun, ?_, ?_⟩
      · have := paired_len pun
        rw [this, PySem.sizeLine_eq]
        omega
      have dM0 := dM.up s0
      have hh : Same (hide M H0) (hide M (upd (upd (upd (upd H0 b.le (.lst es')) b.ls (.lst vs')) t (.tup [ve, vst])) b.lu (.lst (us ++ [.ref t])))) := hide_mono fun a o n e' => ⟨n, by
        rw [upd_ne (fun (z : a = b.lu) => n (z ▸ mu)), upd_ne (ne_of_none e' nt), upd_ne (fun (z : a = b.ls) => n (z ▸ ms)), upd_ne (fun (z : a = b.le) => n (z ▸ me))]
        exact e'⟩
      have h0 := (hide_up (M := M) s0).trans hh
      have kp : Kp [b.ls, b.le, b.lu] H (upd (upd (upd (upd H0 b.le (.lst es')) b.ls (.lst vs')) t (.tup [ve, vst])) b.lu (.lst (us ++ [.ref t]))) := by
        refine Kp.upd (Kp.upd (Kp.upd (Kp.upd (.of s0) (.inl (by simp))) (.inl (by simp))) (.inr ?_)) (.inl (by simp))
        rw [upd_ne ts, upd_ne te]
        exact nt
      refine ⟨_, rfl, q _ ve kp (dp_up h0 p2) ⟨⟨dx, ?_⟩, ⟨vs', ?_, paired_up (fun _ _ h => st_up h0 h) p3⟩, ⟨es', ?_, dpAll_up h0 p1⟩, ⟨us ++ [.ref t], upd_same, paired_app (paired_up (fun _ _ h => un_up h0 h) pun) (.cons ⟨t, ve, vst, rfl, hide_get (hide_new dM0 nt) ?_, dp_up h0 p2, st_up h0 p4⟩ .nil)⟩, hB.ap, hB.mem⟩⟩
      · rw [upd_ne nu, upd_ne tp.symm, upd_ne ns, upd_ne ne_]
        exact s0 _ _ hob
      · rw [upd_ne asu, upd_ne ts.symm, upd_same]
      · rw [upd_ne aeu, upd_ne te.symm, upd_ne ase.symm, upd_same]
      · rw [upd_ne tu, upd_same]

theorem sc_bAgain : FnScope ["self", "edit", "state"] ["self"] (defScope s_bAgain) := ⟨rfl, rfl, rfl, by decide +kernel, rfl, by decide +kernel, by decide +kernel⟩
theorem ok_bAgain : FnOk P w K mg base (L2.CX P w) 1 T.bAgain.f T.bAgain.fd ["self"] (spBAgain T) := by
  refine T.bAgain.F.okX sc_bAgain (fun vs H Q E h => ?_) (fun cdv A outer s H vs Q E hr h => ?_)
  · obtain ⟨M, b, sts, eds, und, rfl, _⟩ := h
    rfl
  · obtain ⟨M, b, sts, eds, und, rfl, dM, hB, h⟩ := h
    obtain ⟨dx, hob⟩ := hB.ob
    obtain ⟨vs, hst, pst⟩ := hB.st
    obtain ⟨es, hed, ped⟩ := hB.ed
    obtain ⟨us, hun, pun⟩ := hB.un
    obtain ⟨ns, ne_, nu⟩ := hB.ne
    obtain ⟨ase, asu, aeu⟩ := hB.ap
    have mp : b.p ∈ M := hB.mem _ (by simp [Bks.fp])
    have ms : b.ls ∈ M := hB.mem _ (by simp [Bks.fp])
    have me : b.le ∈ M := hB.mem _ (by simp [Bks.fp])
    have mu : b.lu ∈ M := hB.mem _ (by simp [Bks.fp])
    have hu : (A.deeper (PyProof.Rows.envOfC ("Book.again" : Str) (defScope s_bAgain) s.heap.objs.size T.bAgain.f cdv)).units < cLine := by have := hr.units; omega
    refine ⟨_, pss_cons (ps_if (pt_cmpR (op_eqNil hu) (pe_fld (pv 0) rfl) (pe_lst pa_nil) (nomark _)) (pss_one (ps_raise rfl (takes_of rfl rfl rfl rfl) (pmk_own0 PySem.F.excBase_ValueError T.xNot T.mNot T.kNot (raises_own T.bNot T.tNot) (by rfl)))) pss_nil)
      (pss_cons (ps_asg (pe_bm0 PySem.F.plainAttrs_list PySem.F.slot_list_pop PySem.F.type_list_pop mt_pop (pe_fld (pv 0) rfl)) (pg_tup rfl (pgs_cons (pg_name (i := 1) sc_bAgain.nd rfl (Or.inl rfl)) (pgs_cons (pg_name (i := 2) sc_bAgain.nd rfl (Or.inl rfl)) pgs_nil))))
      (pss_cons (ps_expr (pe_bm PySem.F.plainAttrs_list PySem.F.slot_list_append PySem.F.type_list_append mt_append (pe_fld (pv 0) rfl) (pa_cons (pv 1) pa_nil)))
      (pss_cons (ps_expr (pe_bm PySem.F.plainAttrs_list PySem.F.slot_list_append PySem.F.type_list_append mt_append (pe_fld (pv 0) rfl) (pa_cons (pv 2) pa_nil)))
      (pss_one (ps_ret (pv 1)))))), ?_⟩
    refine ⟨_, rfl, b.p, T.book.C, dx, _, _, rfl, hob, T.book.cl, T.a_its_undone, bf_u, Nat.zero_le _, fun n0 nn => ?_⟩
    have s0 : Same H (upd H n0 (.lst [])) := same_upd (Same.refl H) nn
    refine ⟨b.lu, n0, us, rfl, rfl, s0 _ _ hun, upd_same, _, rfl, ?_⟩
    generalize upd H n0 (.lst []) = H0 at s0
    rcases h with ⟨rfl, hE⟩ | ⟨und', e, st, rfl, hsl, hel, q⟩
    · cases pun
      exact cT rfl (hE _ s0)
    · obtain ⟨us', vu, rfl, p1, t, ve, vst, rfl, g1, g2, g3⟩ := paired_last pun
      refine cF (by simp) ?_
      refine ⟨_, rfl, b.p, T.book.C, dx, _, _, rfl, s0 _ _ hob, T.book.cl, T.a_its_undone, bf_u, .inl ⟨rfl, _, SqL.of (s0 _ _ hun)⟩, b.lu, _, _, rfl, rfl, s0 _ _ hun, last_get us' _, ?_⟩
      rw [List.dropLast_concat]
      have nt : t ∉ M := fun z => by
        rw [hide_in z] at g1
        cases g1
      have ht : H t = some (.tup [ve, vst]) := hide_sub _ _ g1
      refine ⟨t, [ve, vst], rfl, SqT.of (by rw [upd_ne (fun (z : t = b.lu) => nt (z ▸ mu))]; exact s0 _ _ ht), rfl, ve, _, rfl, vst, _, rfl, rfl, ?_⟩
      refine ⟨_, rfl, b.p, T.book.C, dx, _, _, rfl, by rw [upd_ne nu]; exact s0 _ _ hob, T.book.cl, T.a_its_edits, bf_e, .inl ⟨rfl, _, SqL.of (by rw [upd_ne aeu]; exact s0 _ _ hed)⟩, ?_⟩
      refine ⟨_, rfl, b.le, es, _, rfl, rfl, by rw [upd_ne aeu]; exact s0 _ _ hed, ?_, ?_⟩
      · have := (dpAll_len ped).trans (List.length_map _)
        rw [this, PySem.sizeLine_eq]
        omega
      refine ⟨_, rfl, b.p, T.book.C, dx, _, _, rfl, by rw [upd_ne ne_, upd_ne nu]; exact s0 _ _ hob, T.book.cl, T.a_its_states, bf_s, .inl ⟨rfl, _, SqL.of (by rw [upd_ne ase, upd_ne asu]; exact s0 _ _ hst)⟩, ?_⟩
      refine ⟨_, rfl, b.ls, vs, _, rfl, rfl, by rw [upd_ne ase, upd_ne asu]; exact s0 _ _ hst, ?_, ?_⟩
      · have := paired_len pst
        rw [this, PySem.sizeLine_eq]
        omega
      have hh : Same (hide M H0) (hide M (upd (upd (upd H0 b.lu (.lst us')) b.le (.lst (es ++ [ve]))) b.ls (.lst (vs ++ [vst])))) := hide_mono fun a o n e' => ⟨n, by
        rw [upd_ne (fun (z : a = b.ls) => n (z ▸ ms)), upd_ne (fun (z : a = b.le) => n (z ▸ me)), upd_ne (fun (z : a = b.lu) => n (z ▸ mu))]
        exact e'⟩
      have h0 := (hide_up (M := M) s0).trans hh
      have kp : Kp [b.ls, b.le, b.lu] H (upd (upd (upd H0 b.lu (.lst us')) b.le (.lst (es ++ [ve]))) b.ls (.lst (vs ++ [vst]))) :=
        Kp.upd (Kp.upd (Kp.upd (.of s0) (.inl (by simp))) (.inl (by simp))) (.inl (by simp))
      refine ⟨_, rfl, q _ ve kp (dp_up h0 g2) ⟨⟨dx, ?_⟩, ⟨vs ++ [vst], upd_same, paired_app (paired_up (fun _ _ h => st_up h0 h) pst) (.cons (st_up h0 g3) .nil)⟩, ⟨es ++ [ve], ?_, ?_⟩, ⟨us', ?_, paired_up (fun _ _ h => un_up h0 h) p1⟩, hB.ap, hB.mem⟩⟩
      · rw [upd_ne ns, upd_ne ne_, upd_ne nu]
        exact s0 _ _ hob
      · rw [upd_ne ase.symm, upd_same]
      · rw [List.map_append]
        exact dpAll_app (dpAll_up h0 ped) (.cons (dp_up h0 g2) .nil)
      · rw [upd_ne asu.symm, upd_ne aeu.symm, upd_same]
end
end Bk

/-! The walks: books copied and compared. -/
namespace Bk
open PySem L2 L2.BK

section
variable {P : Program} {w : World} {K : PySem.W.Frag} {mg : Str → Option Value} {base : Heap} (T : Txt P w K mg)

variable {T}
theorem rInit_mono {vs : List V} {H : Hp} {Q Q' : VK} {E E' : XK} (h : spRInit T vs H Q E) (k : ∀ v H', Q v H' → Q' v H') : spRInit T vs H Q' E' := by
  obtain ⟨p, dx, a, us, bs, h1, h2, h3, h4, h5, h6, q⟩ := h
  exact ⟨p, dx, a, us, bs, h1, h2, h3, h4, h5, h6, fun H' l a b c d => k _ _ (q H' l a b c d)⟩
theorem kInit_mono {vs : List V} {H : Hp} {Q Q' : VK} {E E' : XK} (h : spKInit T vs H Q E) (k : ∀ v H', Q v H' → Q' v H') : spKInit T vs H Q' E' := by
  obtain ⟨p, dx, a, us, h1, h2, h3, h4, h5, q⟩ := h
  exact ⟨p, dx, a, us, h1, h2, h3, h4, h5, fun H' l a b c d => k _ _ (q H' l a b c d)⟩
theorem bInit_mono {vs : List V} {H : Hp} {Q Q' : VK} {E E' : XK} (h : spBInit T vs H Q E) (k : ∀ v H', Q v H' → Q' v H') : spBInit T vs H Q' E' := by
  obtain ⟨p, dx, r, bs, kk, ws, h1, h2, h3, h4, q⟩ := h
  exact ⟨p, dx, r, bs, kk, ws, h1, h2, h3, h4, fun H' b t a1 a2 a3 a4 a5 a6 a7 a8 a9 a10 a11 a12 a13 => k _ _ (q H' b t a1 a2 a3 a4 a5 a6 a7 a8 a9 a10 a11 a12 a13)⟩
/-- as made_row, at the new object's place -/
theorem made_row2 {H : Hp} {Q : VK} {E : XK} {a : Addr} {us : List V} {bs : List Bow} {x dx : Addr} (nx : H x = none) (ndx : H dx = none) (ne : dx ≠ x) (hs : SqL K H a us ∨ SqT K H a us) (hd : DpAll K H us (bowsD bs)) (hb : ∀ b ∈ bs, okBow b) (hl : bs.length ≤ 1000)
    (hQ : ∀ H2, Same H H2 → (∀ M, Dom M H → DpAll K (hide M H) us (bowsD bs) → RowAt T (hide M H2) (.ref x) bs) → Q .non H2) :
    spRInit T [.ref x, .ref a] (upd (upd H dx (.own x)) x (.ins T.row.C dx [])) Q E :=
  rInit_mono (made_row (T := T) (E := E) (Q := fun u H2 => u = .ref x → Q .non H2) hs hd hb hl (fun H2 u s1 hk hu => hQ H2 s1 (hu ▸ hk)) x dx nx ndx ne) fun v H' ⟨hv, q⟩ => by rw [hv]; exact q rfl
theorem made_kind2 {H : Hp} {Q : VK} {E : XK} {a : Addr} {zs : List Str} {x dx : Addr} (nx : H x = none) (ndx : H dx = none) (ne : dx ≠ x) (hs : SqL K H a (zs.map V.str)) (hz : ∀ x ∈ zs, x ∈ WAYSL) (hl : zs.length ≤ 100)
    (hQ : ∀ H2, Same H H2 → (∀ M, Dom M H → KindAt T (hide M H2) (.ref x) (canon fun x => zs.contains x)) → Q .non H2) :
    spKInit T [.ref x, .ref a] (upd (upd H dx (.own x)) x (.ins T.kind.C dx [])) Q E :=
  kInit_mono (made_kind (T := T) (E := E) (Q := fun u H2 => u = .ref x → Q .non H2) hs hz hl (fun H2 u s1 hk hu => hQ H2 s1 (hu ▸ hk)) x dx nx ndx ne) fun v H' ⟨hv, q⟩ => by rw [hv]; exact q rfl
theorem made_book2 {H : Hp} {Q : VK} {E : XK} {r k : V} {s : Stt} {x dx : Addr} (nx : H x = none) (ndx : H dx = none) (ne : dx ≠ x) (hR : RowAt T H r s.1) (hK : KindAt T H k s.2)
    (hQ : ∀ H2 b, b.p = x → Same H H2 → (∀ a ∈ b.fp, H a = none) → (∀ M, Dom M H → RowAt T (hide M H) r s.1 → KindAt T (hide M H) k s.2 → BookAt T (b.fp ++ M) H2 b [s] [] []) → Q .non H2) :
    spBInit T [.ref x, r, k] (upd (upd H dx (.own x)) x (.ins T.book.C dx [])) Q E :=
  bInit_mono (made_book (T := T) (E := E) (Q := fun u H2 => u = .ref x → Q .non H2) hR hK (fun H2 b s1 h1 h2 hu => hQ H2 b (by injection hu) s1 h1 h2) x dx nx ndx ne) fun v H' ⟨hv, q⟩ => by rw [hv]; exact q rfl

variable (T)
theorem sc_bCopied : FnScope ["self", "found"] ["self"] (defScope s_bCopied) := ⟨rfl, rfl, rfl, by decide +kernel, rfl, by decide +kernel, by decide +kernel⟩
theorem ok_bCopied : FnOk P w K mg base CX0 3 T.bCopied.f T.bCopied.fd ["self"] (spBCopied T) := by
  refine T.bCopied.F.ok sc_bCopied (fun vs H Q E h => ?_) (fun cdv A outer s H vs Q E hr h => ?_)
  · obtain ⟨M, b, st, sts, eds, und, rfl, _⟩ := h
    rfl
  · obtain ⟨M, b, st, sts, eds, und, rfl, dM, hB, q⟩ := h
    obtain ⟨dx, hob⟩ := hB.ob
    obtain ⟨vs, hst, pst⟩ := hB.st
    obtain ⟨es, hed, ped⟩ := hB.ed
    obtain ⟨us, hun, pun⟩ := hB.un
    have gB : FnOk P w K mg base CX0 1 T.bInit.f T.bInit.fd ["self", "row", "kind"] (spBInit T) := ok_bInit T
    cases pst with
    | @cons v0 _ vs' _ a0 p0 =>
    obtain ⟨t, r, k, rfl, g1, g2, g3⟩ := a0
    refine ⟨_, pss_cons (ps_set (i := 1) sc_bCopied.nd rfl (Or.inl rfl) (pe_make bMk gB hr (by rfl) T.book.mg T.bInit.b .nil pass0
          (pa_cons (pe_ix ix_tup (pe_ix ix_list (pe_fld (pv 0) rfl) pe_int (fun _ _ => rfl)) pe_int (fun _ _ => rfl)) (pa_cons (pe_ix ix_tup (pe_ix ix_list (pe_fld (pv 0) rfl) pe_int (fun _ _ => rfl)) pe_int (fun _ _ => rfl)) pa_nil))))
      (pss_cons (ps_fld (pv 1) (pe_callTy call_list_of (by rfl) T.n_list (by decide +kernel) (pa_cons (pe_fld (pv 0) rfl) pa_nil)) rfl)
      (pss_cons (ps_fld (pv 1) (pe_callTy call_list_of (by rfl) T.n_list (by decide +kernel) (pa_cons (pe_fld (pv 0) rfl) pa_nil)) rfl)
      (pss_cons (ps_fld (pv 1) (pe_callTy call_list_of (by rfl) T.n_list (by decide +kernel) (pa_cons (pe_fld (pv 0) rfl) pa_nil)) rfl)
      (pss_one (ps_ret (pv 1)))))), ?_⟩
    refine ⟨_, rfl, b.p, T.book.C, dx, _, _, rfl, hob, T.book.cl, T.a_its_states, bf_s, _, _, _, _, rfl, rfl, SqL.of hst, atI_nat (j := 0) rfl, t, _, _, _, rfl, rfl, SqT.of (hide_sub _ _ g1), atI_nat (j := 0) rfl, ?_⟩
    refine ⟨_, rfl, b.p, T.book.C, dx, _, _, rfl, hob, T.book.cl, T.a_its_states, bf_s, _, _, _, _, rfl, rfl, SqL.of hst, atI_nat (j := 0) rfl, t, _, _, _, rfl, rfl, SqT.of (hide_sub _ _ g1), atI_nat (j := 1) rfl, ?_⟩
    intro x dq nx ndq nq
    refine made_book2 (T := T) (s := st) nx ndq nq (row_up hide_sub g2) (kind_up hide_sub g3) fun H2 c ec s2 fr hc => ⟨rfl, ?_⟩
    subst ec
    obtain ⟨⟨dc, hoc⟩, _, _, _, _, _⟩ := hc [] Dom.nil (by rw [hide_nil]; exact row_up hide_sub g2) (by rw [hide_nil]; exact kind_up hide_sub g3)
    have fp := fr c.p (by simp [Bks.fp])
    have nc : ∀ {a o}, H a = some o → a ≠ c.p := fun h => ne_of_none h fp
    -- its_states
    refine ⟨_, rfl, b.p, T.book.C, dx, _, _, rfl, s2 _ _ hob, T.book.cl, T.a_its_states, bf_s, b.ls, _, rfl, .inl (SqL.of (s2 _ _ hst)), fun l1 n1 => ?_⟩
    have s3 : Same H (upd H2 l1 (.lst (.ref t :: vs'))) := same_upd s2 n1
    have h1 : l1 ≠ c.p := (ne_of_none hoc n1).symm
    refine ⟨_, rfl, c.p, T.book.C, dc, _, rfl, by rw [upd_ne h1.symm]; exact hoc, T.book.cl, T.a_its_states, bf_len, ?_⟩
    rw [bf_ps]
    have s4 : Same H (upd (upd H2 l1 (.lst (.ref t :: vs'))) c.p (.ins T.book.C dc (bf l1 c.le c.lu))) := fun a o e => by
      rw [upd_ne (nc e)]
      exact s3 _ _ e
    -- its_edits
    refine ⟨_, rfl, b.p, T.book.C, dx, _, _, rfl, s4 _ _ hob, T.book.cl, T.a_its_edits, bf_e, b.le, _, rfl, .inl (SqL.of (s4 _ _ hed)), fun l2 n2 => ?_⟩
    have s5 := same_upd (o := .lst es) s4 n2
    have n2' := n2
    obtain ⟨h2, n2⟩ := upd_none n2
    obtain ⟨h21, n2⟩ := upd_none n2
    refine ⟨_, rfl, c.p, T.book.C, dc, _, rfl, by rw [upd_ne h2.symm, upd_same], T.book.cl, T.a_its_edits, bf_len, ?_⟩
    rw [bf_pe]
    have s6 : Same H (upd (upd (upd (upd H2 l1 (.lst (.ref t :: vs'))) c.p (.ins T.book.C dc (bf l1 c.le c.lu))) l2 (.lst es)) c.p (.ins T.book.C dc (bf l1 l2 c.lu))) := fun a o e => by
      rw [upd_ne (nc e)]
      exact s5 _ _ e
    -- its_undone
    refine ⟨_, rfl, b.p, T.book.C, dx, _, _, rfl, s6 _ _ hob, T.book.cl, T.a_its_undone, bf_u, b.lu, _, rfl, .inl (SqL.of (s6 _ _ hun)), fun l3 n3 => ?_⟩
    have s7 := same_upd (o := .lst us) s6 n3
    obtain ⟨h3, n3⟩ := upd_none n3
    obtain ⟨h32, n3⟩ := upd_none n3
    obtain ⟨_, n3⟩ := upd_none n3
    obtain ⟨h31, n3⟩ := upd_none n3
    refine ⟨_, rfl, c.p, T.book.C, dc, _, rfl, by rw [upd_ne h3.symm, upd_same], T.book.cl, T.a_its_undone, bf_len, ?_⟩
    rw [bf_pu]
    have s8 : Same H (upd (upd (upd (upd (upd (upd H2 l1 (.lst (.ref t :: vs'))) c.p (.ins T.book.C dc (bf l1 c.le c.lu))) l2 (.lst es)) c.p (.ins T.book.C dc (bf l1 l2 c.lu))) l3 (.lst us)) c.p (.ins T.book.C dc (bf l1 l2 l3))) := fun a o e => by
      rw [upd_ne (nc e)]
      exact s7 _ _ e
    have fr' : ∀ a ∈ (Bks.mk c.p l1 l2 l3).fp, H a = none := by
      intro a ha
      have ha' : a = c.p ∨ a = l1 ∨ a = l2 ∨ a = l3 := by simpa [Bks.fp] using ha
      rcases ha' with rfl | rfl | rfl | rfl
      · exact fp
      · exact s2.free n1
      · exact s2.free n2
      · exact s2.free n3
    have up := hide_mono (M := M) (M' := (Bks.mk c.p l1 l2 l3).fp ++ M) fun a o n e => ⟨fun z => by
      rcases List.mem_append.mp z with z | z
      · have e' := fr' a z
        rw [e] at e'
        cases e'
      · exact n z, s8 a o e⟩
    refine ⟨_, rfl, q _ ⟨c.p, l1, l2, l3⟩ s8 fr' ⟨⟨dc, upd_same⟩, ⟨_, ?_, .cons ⟨t, r, k, rfl, up _ _ g1, row_up up g2, kind_up up g3⟩ (paired_up (fun _ _ h => st_up up h) (by assumption))⟩, ⟨es, ?_, dpAll_up up ped⟩, ⟨us, ?_, paired_up (fun _ _ h => un_up up h) pun⟩, ⟨h21.symm, h31.symm, h32.symm⟩, fun a ha => List.mem_append_left _ ha⟩⟩
    · show upd _ c.p _ l1 = _
      rw [upd_ne h1, upd_ne h31.symm, upd_ne h1, upd_ne h21.symm, upd_ne h1, upd_same]
    · show upd _ c.p _ l2 = _
      rw [upd_ne h2, upd_ne h32.symm, upd_ne h2, upd_same]
    · show upd _ c.p _ l3 = _
      rw [upd_ne h3, upd_same]

theorem sc_bEq : FnScope ["self", "other", "mine", "its"] ["self", "other"] (defScope s_bEq) := ⟨rfl, rfl, rfl, by decide +kernel, rfl, by decide +kernel, by decide +kernel⟩
theorem tyN {H : Hp} : TyX K H .non (.type "NoneType") := .base .non
theorem ok_bEq : FnOk P w K mg base CX0 4 T.bEq.f T.bEq.fd ["self", "other"] (spBEq T) := by
  refine T.bEq.F.ok sc_bEq (fun vs H Q E h => ?_) (fun cdv A outer s H vs Q E hr h => ?_)
  · obtain ⟨M, b, st, sts, eds, und, u, rfl, _⟩ := h
    rfl
  · obtain ⟨M, b, st, sts, eds, und, u, rfl, hB, oe, os, h⟩ := h
    obtain ⟨dx, hob⟩ := hB.ob
    obtain ⟨vs, hst, pst⟩ := hB.st
    obtain ⟨es, hed, ped⟩ := hB.ed
    have gR : FnOk P w K mg base CX0 3 T.rEq.f T.rEq.fd ["self", "other"] (spREq T) := ok_rEq T
    have gK : FnOk P w K mg base CX0 3 T.kEq.f T.kEq.fd ["self", "other"] (spKEq T) := ok_kEq T
    refine ⟨_, pss_cons (ps_if (PW.pt (pw_or (pt_not (pt_val (pe_callB call_isi (by rfl) T.n_isinstance (by decide +kernel) (pa_cons (pv 1) (pa_cons (pe_glob (v := .ref T.book.C) (by rfl) T.book.mg rfl) pa_nil)))))
          (pw_or1 (pt_cmpR (op_neD hr.units) (pe_fld (pv 0) rfl) (pe_fld (pv 1) rfl) (nomark _))))) (pss_one (ps_ret pe_bl)) pss_nil)
      (pss_cons (ps_par (i := 2) (j := 3) rfl sc_bEq.nd rfl rfl (by decide) rfl rfl (pa_cons (pe_ix ix_list (pe_fld (pv 0) rfl) pe_int (fun _ _ => rfl)) (pa_cons (pe_ix ix_list (pe_fld (pv 1) rfl) pe_int (fun _ _ => rfl)) pa_nil)) (by rfl))
      (pss_one (ps_ret (pe_and (pe_cmpR (op_eq_own gR hr T.rEq.b pass0 T.rEq.m) (pe_ix ix_tup (pv 2) pe_int (fun _ _ => rfl)) (pe_ix ix_tup (pv 3) pe_int (fun _ _ => rfl)) (nomark _))
        (pe_one (pe_cmpR (op_eq_own gK hr T.kEq.b pass0 T.kEq.m) (pe_ix ix_tup (pv 2) pe_int (fun _ _ => rfl)) (pe_ix ix_tup (pv 3) pe_int (fun _ _ => rfl)) (nomark _))))))), ?_⟩
    rcases h with ⟨M2, b2, st2, sts2, eds2, und2, rfl, hC, oe2, os2, q⟩ | ⟨hu, q⟩
    · obtain ⟨dy, hoc⟩ := hC.ob
      obtain ⟨vs2, hst2, pst2⟩ := hC.st
      obtain ⟨es2, hed2, ped2⟩ := hC.ed
      refine ⟨_, rfl, _, _, _, _, true, rfl, .own T.book.C, tyI T.book hoc, T.book.sf, true, rfl, ?_⟩
      refine iteF ?_
      refine ⟨_, rfl, b.p, T.book.C, dx, _, _, rfl, hob, T.book.cl, T.a_its_edits, bf_e, _, rfl, b2.p, T.book.C, dy, _, _, rfl, hoc, T.book.cl, T.a_its_edits, bf_e, ?_⟩
      refine ⟨.list (eds.map edD), .list (eds2.map edD), .lst (SqL.of hed) (dpAll_up hide_sub ped), .lst (SqL.of hed2) (dpAll_up hide_sub ped2), eds_shaped oe, eds_shaped oe2, _, rfl, ?_⟩
      have ee : PyData.eqv (.list (eds.map edD)) (.list (eds2.map edD)) = decide (eds = eds2) := by
        simp only [PyData.eqv]
        exact edsD_eqv eds eds2
      rw [ee]
      by_cases h1 : eds = eds2
      · refine cF (by rw [decide_eq_true h1]; rfl) ?_
        cases pst with
        | @cons v0 _ vs' _ a0 p0 =>
        cases pst2 with
        | @cons w0 _ ws' _ c0 r0 =>
        obtain ⟨t, r, k, rfl, g1, g2, g3⟩ := a0
        obtain ⟨t2, r2, k2, rfl, f1, f2, f3⟩ := c0
        refine ⟨_, rfl, b.p, T.book.C, dx, _, _, rfl, hob, T.book.cl, T.a_its_states, bf_s, _, _, _, _, rfl, rfl, SqL.of hst, atI_nat (j := 0) rfl, ?_⟩
        refine ⟨_, rfl, b2.p, T.book.C, dy, _, _, rfl, hoc, T.book.cl, T.a_its_states, bf_s, _, _, _, _, rfl, rfl, SqL.of hst2, atI_nat (j := 0) rfl, _, _, rfl, ?_⟩
        have g2' := row_up hide_sub g2
        have f2' := row_up hide_sub f2
        obtain ⟨pr, dr, lr, ur, rfl, x1, x2, x3⟩ := id g2'
        obtain ⟨pr2, dr2, lr2, ur2, rfl, y1, y2, y3⟩ := id f2'
        refine ⟨_, rfl, t, _, _, _, rfl, rfl, SqT.of (hide_sub _ _ g1), atI_nat (j := 0) rfl, _, rfl, t2, _, _, _, rfl, rfl, SqT.of (hide_sub _ _ f1), atI_nat (j := 0) rfl, ?_⟩
        refine ⟨pr, dr, _, .ref T.row.C, rfl, x1, .inr (.inr ⟨pr2, _, _, _, rfl, y1, rfl⟩), T.nf4, _, _, _, _, rfl, g2', f2', fun H1 s1 => ⟨_, rfl, ?_⟩⟩
        refine ite2 (fun h2 => ?_) (fun h2 => ?_)
        · have h2 := of_decide_eq_true h2
          have g3' := kind_up s1 (kind_up hide_sub g3)
          have f3' := kind_up s1 (kind_up hide_sub f3)
          obtain ⟨pk, dk, lk, rfl, x4, x5⟩ := id g3'
          obtain ⟨pk2, dk2, lk2, rfl, y4, y5⟩ := id f3'
          refine ⟨_, rfl, t, _, _, _, rfl, rfl, SqT.of (s1 _ _ (hide_sub _ _ g1)), atI_nat (j := 1) rfl, _, rfl, t2, _, _, _, rfl, rfl, SqT.of (s1 _ _ (hide_sub _ _ f1)), atI_nat (j := 1) rfl, ?_⟩
          refine ⟨pk, dk, _, .ref T.kind.C, rfl, x4, .inr (.inr ⟨pk2, _, _, _, rfl, y4, rfl⟩), T.nf5, _, _, _, _, rfl, g3', f3', okSt_ways os, okSt_ways os2, fun H2 s2 => ?_⟩
          have z := q H2 (s1.trans s2)
          have e : decide (eds = eds2 ∧ st = st2) = decide (st.2 = st2.2) := by
            refine decide_eq_decide.mpr ⟨fun h => by rw [h.2], fun h => ⟨h1, Prod.ext h2 h⟩⟩
          rw [e] at z
          exact z
        · have h2 := of_decide_eq_false (Bool.eq_false_iff.mpr h2)
          have z := q H1 s1
          have e : decide (eds = eds2 ∧ st = st2) = false := decide_eq_false fun h => h2 (by rw [h.2])
          rw [e] at z
          exact z
      · refine cT (by rw [decide_eq_false h1]; rfl) ?_
        have z := q H (Same.refl H)
        rw [decide_eq_false (fun h => h1 h.1)] at z
        exact z
    · rcases hu with rfl | ⟨a, xs, rfl, hl⟩
      · refine ⟨_, rfl, _, _, _, _, false, rfl, .own T.book.C, tyN, T.in_, false, rfl, ?_⟩
        exact iteT q
      · refine ⟨_, rfl, _, _, _, _, false, rfl, .own T.book.C, tyL hl, T.il, false, rfl, ?_⟩
        exact iteT q
end
end Bk

/-! The walks: the bag of numbers, and a draw. -/
namespace Bk
open PySem L2 L2.BK

/-- a bag at b, its numbers at c -/
def BagAt (H : Hp) (b c : Addr) : Prop := ∃ (n0 n1 n2 : Int) (xs : List Int), H b = some (.lst [.int n0, .int n1, .int n2, .ref c]) ∧ H c = some (.lst (xs.map V.int)) ∧ c ≠ b ∧ 0 ≤ n0 ∧ 0 ≤ n1 ∧ n1 < 2147483647 ∧ 0 ≤ n2 ∧ ∀ x ∈ xs, 0 ≤ x
theorem BagAt.up {H H' : Hp} {b c : Addr} (h : BagAt H b c) (kb : ∀ o, H b = some o → H' b = some o) (kc : ∀ o, H c = some o → H' c = some o) : BagAt H' b c := by
  obtain ⟨n0, n1, n2, xs, h1, h2, r⟩ := h
  exact ⟨n0, n1, n2, xs, kb _ h1, kc _ h2, r⟩
theorem BagAt.same {H H' : Hp} {b c : Addr} (h : BagAt H b c) (s : Same H H') : BagAt H' b c := h.up (fun _ e => s _ _ e) (fun _ e => s _ _ e)
theorem BagAt.kp {F : List Addr} {H H' : Hp} {b c : Addr} (h : BagAt H b c) (k : Kp F H H') (nb : b ∉ F) (nc : c ∉ F) : BagAt H' b c := h.up (fun _ e => k.at nb e) (fun _ e => k.at nc e)
theorem BagAt.live {H : Hp} {b c : Addr} (h : BagAt H b c) : (∃ o, H b = some o) ∧ ∃ o, H c = some o := by
  obtain ⟨n0, n1, n2, xs, h1, h2, r⟩ := h
  exact ⟨⟨_, h1⟩, _, h2⟩
theorem BagAt.ne {H : Hp} {b c a : Addr} (h : BagAt H b c) (e : H a = none) : a ≠ b ∧ a ≠ c := by
  obtain ⟨n0, n1, n2, xs, h1, h2, r⟩ := h
  exact ⟨(ne_of_none h1 e).symm, (ne_of_none h2 e).symm⟩

section
variable {P : Program} {w : World} {K : PySem.W.Frag} {mg : Str → Option Value} {base : Heap} (T : Txt P w K mg)
def spBag (K : PySem.W.Frag) : Sp := fun vs H Q _ => ∃ (a : Addr) (ns : List Int), vs = [.ref a] ∧ SqL K H a (ns.map V.int) ∧ ns.length ≤ 1000 ∧ ∀ H' b c, Same H H' → H b = none → H c = none → BagAt H' b c → Q (.ref b) H'
def spTake : Sp := fun vs H Q _ => ∃ b c m, vs = [.ref b, .int m] ∧ BagAt H b c ∧ 1 ≤ m ∧ m < 1000 ∧ ∀ H' d, Kp [b] H H' → BagAt H' b c → 0 ≤ d → d < m → Q (.int d) H'

def absI (i : Int) : Int := if i < 0 then -i else i
theorem absI_nn (i : Int) : 0 ≤ absI i := by
  unfold absI
  split <;> omega
theorem sc_bag : FnScope ["_law_script", "_law_cell"] ["_law_script"] (defScope s_bag) := ⟨rfl, rfl, rfl, by decide +kernel, rfl, by decide +kernel, by decide +kernel⟩
theorem ok_bag : FnOk P w K mg base CX0 1 T.bag.f T.bag.fd ["_law_script"] (spBag K) := by
  refine T.bag.F.ok sc_bag (fun vs H Q E h => ?_) (fun cdv A outer s H vs Q E hr h => ?_)
  · obtain ⟨a, ns, rfl, _⟩ := h
    rfl
  · obtain ⟨a, ns, rfl, hs, hl, q⟩ := h
    refine ⟨_, pss_one (ps_ret (pe_lst (pa_cons pe_int (pa_cons pe_int (pa_cons pe_int (pa_cons (pe_lc (own := [("_law_cell", 1)]) (g := gName 1) (tt := tYes) (by rfl) sc_bag.nd
        (pi_list (pe_slice sl_list (pv 0) po_none (po_some pe_int))) (blkOk_by (own := [("_law_cell", 1)]) (N := ["_law_script", "_law_cell"]) (sc := defScope s_bag) (by decide +kernel))
          (fun _ _ _ _ _ => pg_name (i := 1) sc_bag.nd rfl (Or.inl rfl)) (fun _ _ _ _ _ => pts_nil)
          (fun _ _ _ _ _ => pe_callB call_abs (by rfl) T.n_abs (by decide +kernel) (pa_cons (pv 1) pa_nil))) pa_nil)))))), ?_⟩
    refine ⟨_, rfl, 63, rfl, a, _, rfl, hs, fun p np => ?_⟩
    have hc : ∃ ms : List Int, cutV (ns.map V.int) none (some 63) = ms.map V.int ∧ ms.length ≤ 1000 := by
      unfold cutV
      rw [← List.map_drop, ← List.map_take]
      exact ⟨_, rfl, by rw [List.length_take, List.length_drop]; omega⟩
    obtain ⟨ms, em, hm⟩ := hc
    rw [em]
    have s1 : Same H (upd H p (.lst (ms.map V.int))) := same_upd (Same.refl H) np
    have hp : upd H p (.lst (ms.map V.int)) p = some (.lst (ms.map V.int)) := upd_same
    generalize upd H p (.lst (ms.map V.int)) = H1 at s1 hp
    refine ⟨p, rfl, ⟨_, SqL.of hp⟩, fun D hD => ?_⟩
    refine lc_list (K := K) (xs := ms.map V.int) (fun i H' => Same H1 H' ∧ H' D = some (.lst (((ms.map absI).take i).map V.int))) ⟨same_upd (Same.refl _) hD, upd_same⟩ (fun i H' _ q => SqL.of (q.1 _ _ hp)) (fun i x H' hx q => ?_) (fun H' q' => ?_)
    · have hi : i < ms.length := by
        have z := (List.getElem?_eq_some_iff.mp hx).1
        rw [List.length_map] at z
        exact z
      rw [List.getElem?_map, List.getElem?_eq_getElem hi] at hx
      cases hx
      refine ⟨rfl, yes (iteT ?_)⟩
      refine ⟨_, rfl, _, rfl, _, q.2, ?_, same_mut q.1 hD, ?_⟩
      · rw [List.length_map, List.length_take, PySem.sizeLine_eq]
        omega
      · rw [upd_same, take_snoc (by rw [List.length_map]; exact hi), List.map_append, List.getElem_map]
        rfl
    · have q2 : H' D = some (.lst ((ms.map absI).map V.int)) := by
        rw [q'.2, List.length_map, show (ms.map absI).take ms.length = ms.map absI from List.take_of_length_le (by rw [List.length_map]; exact Nat.le_refl _)]
      refine ⟨by show 4 ≤ sizeLine; decide, fun b nb => ?_⟩
      have s2 : Same H1 (upd H' b (.lst [.int 0, .int 1234567891, .int 0, .ref D])) := same_upd q'.1 nb
      have hDb : D ≠ b := ne_of_none q2 nb
      refine q _ b D (s1.trans s2) (s1.free (q'.1.free nb)) (s1.free hD) ⟨0, 1234567891, 0, ms.map absI, upd_same, by rw [upd_ne hDb]; exact q2, hDb, by decide, by decide, by decide, by decide, fun x hx => ?_⟩
      obtain ⟨y, _, rfl⟩ := List.mem_map.mp hx
      exact absI_nn y
def ifBody : List Stmt → List Stmt
  | .If _ b _ _ :: _ => b
  | _ => []
theorem sc_take : FnScope ["_law_bag_here", "_law_many", "_law_cell", "_law_mixed_here", "_law_drawn", "_law_begin", "_law_second"] ["_law_bag_here", "_law_many"] (defScope s_take) := ⟨rfl, rfl, rfl, by decide +kernel, rfl, by decide +kernel, by decide +kernel⟩
theorem setL {H H' : Hp} {b c : Addr} {n0 n1 n2 : Int} (k : Kp [b] H H') (h : H' b = some (.lst [.int n0, .int n1, .int n2, .ref c])) (v : V) (j : Nat) : Kp [b] H (upd H' b (.lst ([.int n0, .int n1, .int n2, .ref c].set j v))) := k.upd (.inl (by simp))
theorem ok_take : FnOk P w K mg base CX0 1 T.take.f T.take.fd ["_law_bag_here", "_law_many"] spTake := by
  refine T.take.F.ok sc_take (fun vs H Q E h => ?_) (fun cdv A outer s H vs Q E hr h => ?_)
  · obtain ⟨b, c, m, rfl, _⟩ := h
    rfl
  · obtain ⟨b, c, m, rfl, hB, hm1, hm2, q⟩ := h
    -- behind the first if
    have tail : ∃ t, PSs (cxOf CX0 P w K mg base ["_law_bag_here", "_law_many", "_law_cell", "_law_mixed_here", "_law_drawn", "_law_begin", "_law_second"] "_law_take" (defScope s_take) T.take.f cdv A outer s H E).nox (List.drop 1 (defBody s_take)) t ∧
        ∀ H1 x y, Kp [b] H H1 → BagAt H1 b c → t { nx := fun _ H' => Q .non H', rt := Q } [some (.ref b), some (.int m), x, y, none, none, none] H1 := by
      refine ⟨_, pss_cons (ps_if (pt_cmpR op_gt (pe_ix ix_list (pv 0) pe_int (fun _ _ => rfl)) pe_int (nomark _))
            (pss_cons (ps_set (i := 4) sc_take.nd rfl (Or.inl rfl) (pe_op op_mod (pe_callTy call_int1 (by rfl) T.n_int (by decide +kernel) (pa_cons (pe_ix ix_list (pv 0) pe_int (fun _ _ => rfl)) pa_nil)) (pv 1)))
            (pss_cons (ps_asg (pe_op op_fdiv (pe_ix ix_list (pv 0) pe_int (fun _ _ => rfl)) (pv 1)) (pg_sub (pv 0) pe_int set_list))
            (pss_one (ps_ret (pv 4))))) pss_nil)
        (pss_cons (ps_set (i := 5) sc_take.nd rfl (Or.inl rfl) (pe_op op_mod (pe_callTy call_int1 (by rfl) T.n_int (by decide +kernel) (pa_cons (pe_op op_mul (pe_op op_add (pe_ix ix_list (pv 0) pe_int (fun _ _ => rfl)) pe_int) pe_int) pa_nil)) pe_int))
        (pss_cons (ps_set (i := 6) sc_take.nd rfl (Or.inl rfl) (pe_op op_mod (pe_callTy call_int1 (by rfl) T.n_int (by decide +kernel) (pa_cons (pe_op op_mul (pe_op op_mod (pe_callTy call_int1 (by rfl) T.n_int (by decide +kernel) (pa_cons (pe_op op_mul (pv 5) (pv 5)) pa_nil)) pe_int) pe_int) pa_nil)) pe_int))
        (pss_one (ps_ret (pe_op op_mod (pe_callTy call_int1 (by rfl) T.n_int (by decide +kernel) (pa_cons (pe_op op_fdiv (pv 6) pe_int) pa_nil)) (pv 1)))))), fun H1 x y k1 hB1 => ?_⟩
      obtain ⟨n0, n1, n2, xs, hb, hc, hcb, a0, a1, a1', a2, ax⟩ := id hB1
      refine ⟨_, rfl, b, _, _, _, rfl, rfl, SqL.of hb, atI_nat (j := 0) rfl, n0, 0, rfl, rfl, _, rfl, ?_⟩
      by_cases hp : 0 < n0
      · refine cT (decide_eq_true hp) ?_
        refine ⟨_, rfl, b, _, _, _, rfl, rfl, SqL.of hb, atI_nat (j := 0) rfl, .inl ⟨n0, rfl, _, rfl, n0, m, rfl, rfl, by show (0 : Int) < m; omega, ?_⟩⟩
        refine ⟨_, rfl, b, _, _, _, rfl, rfl, SqL.of hb, atI_nat (j := 0) rfl, _, rfl, n0, m, rfl, rfl, ⟨by omega, by omega⟩, ?_⟩
        refine ⟨_, rfl, b, _, 0, 0, rfl, rfl, hb, rfl, _, rfl, ?_⟩
        refine q _ _ (k1.upd (.inl (by simp))) ⟨n0 / m, n1, n2, xs, upd_same, by rw [upd_ne hcb]; exact hc, hcb, Int.ediv_nonneg a0 (by omega), a1, a1', a2, ax⟩ (Int.emod_nonneg _ (by omega)) (Int.emod_lt_of_pos _ (by omega))
      · refine cF (decide_eq_false hp) ?_
        have z1 := Int.emod_nonneg ((n1 + 1) * 39373) (show (1000000007 : Int) ≠ 0 by decide)
        have z2 := Int.emod_lt_of_pos ((n1 + 1) * 39373) (show (0 : Int) < 1000000007 by decide)
        refine ⟨_, rfl, b, _, _, _, rfl, rfl, SqL.of hb, atI_nat (j := 1) rfl, n1, 1, rfl, rfl, n1 + 1, 39373, rfl, rfl, .inr ⟨by decide, by decide⟩, .inl ⟨_, rfl, _, _, rfl, rfl, by show (0 : Int) < 1000000007; decide, ?_⟩⟩
        refine ⟨_, rfl, _, rfl, (n1 + 1) * 39373 % 1000000007, (n1 + 1) * 39373 % 1000000007, rfl, rfl, .inl ⟨by omega, by omega⟩, .inl ⟨_, rfl, _, _, rfl, rfl, by show (0 : Int) < 998244353; decide, _, 30011, rfl, rfl, .inr ⟨by decide, by decide⟩, .inl ⟨_, rfl, _, _, rfl, rfl, by show (0 : Int) < 998244353; decide, ?_⟩⟩⟩
        refine ⟨_, rfl, _, 7, rfl, rfl, ⟨by decide, by decide⟩, .inl ⟨_, rfl, _, rfl, _, m, rfl, rfl, by show (0 : Int) < m; omega, ?_⟩⟩
        exact q _ _ k1 hB1 (Int.emod_nonneg _ (by omega)) (Int.emod_lt_of_pos _ (by omega))
    obtain ⟨tl, hT, hGo⟩ := tail
    -- the last two lines of the first if's block
    have last : ∃ t, PSs (cxOf CX0 P w K mg base ["_law_bag_here", "_law_many", "_law_cell", "_law_mixed_here", "_law_drawn", "_law_begin", "_law_second"] "_law_take" (defScope s_take) T.take.f cdv A outer s H E).nox (List.drop 4 (ifBody (defBody s_take))) t ∧
        ∀ H1 z, Kp [b] H H1 → BagAt H1 b c → t { nx := fun σ' H' => tl { nx := fun _ H' => Q .non H', rt := Q } σ' H', rt := Q } [some (.ref b), some (.int m), some (.int z), none, none, none, none] H1 := by
      refine ⟨_, pss_cons (ps_set (i := 3) sc_take.nd rfl (Or.inl rfl) (pe_op op_add (pe_op op_add (pe_op op_mul (pe_ix ix_list (pv 0) pe_int (fun _ _ => rfl)) pe_int) (pe_op op_mod (pe_callTy call_int1 (by rfl) T.n_int (by decide +kernel) (pa_cons (pv 2) pa_nil)) pe_int)) (pe_op op_mul pe_int (pe_ix ix_list (pv 0) pe_int (fun _ _ => rfl)))))
        (pss_one (ps_asg (pe_op op_mod (pe_callTy call_int1 (by rfl) T.n_int (by decide +kernel) (pa_cons (pv 3) pa_nil)) pe_int) (pg_sub (pv 0) pe_int set_list))), fun H1 z k1 hB1 => ?_⟩
      obtain ⟨n0, n1, n2, xs, hb, hc, hcb, a0, a1, a1', a2, ax⟩ := id hB1
      refine ⟨_, rfl, b, _, _, _, rfl, rfl, SqL.of hb, atI_nat (j := 1) rfl, n1, 48271, rfl, rfl, .inr ⟨by decide, by decide⟩, _, rfl, .inl ⟨z, rfl, z, _, rfl, rfl, by show (0 : Int) < 2147483647; decide, _, _, rfl, rfl, ?_⟩⟩
      refine ⟨_, rfl, b, _, _, _, rfl, rfl, SqL.of hb, atI_nat (j := 2) rfl, 7919, n2, rfl, rfl, .inl ⟨by decide, by decide⟩, _, _, rfl, rfl, ?_⟩
      refine ⟨_, rfl, .inl ⟨_, rfl, _, _, rfl, rfl, by show (0 : Int) < 2147483647; decide, ?_⟩⟩
      refine ⟨_, rfl, b, _, 1, 1, rfl, rfl, hb, rfl, ?_⟩
      exact hGo _ _ _ (k1.upd (.inl (by simp))) ⟨n0, _, n2, xs, upd_same, by rw [upd_ne hcb]; exact hc, hcb, a0, Int.emod_nonneg _ (by decide), Int.emod_lt_of_pos _ (by decide), a2, ax⟩
    obtain ⟨tz, hZ, hGz⟩ := last
    -- from bag[2] += 1
    have mid : ∃ t, PSs (cxOf CX0 P w K mg base ["_law_bag_here", "_law_many", "_law_cell", "_law_mixed_here", "_law_drawn", "_law_begin", "_law_second"] "_law_take" (defScope s_take) T.take.f cdv A outer s H E).nox (List.drop 2 (ifBody (defBody s_take))) t ∧
        ∀ z, 0 ≤ z → t { nx := fun σ' H' => tl { nx := fun _ H' => Q .non H', rt := Q } σ' H', rt := Q } [some (.ref b), some (.int m), some (.int z), none, none, none, none] H := by
      refine ⟨_, pss_cons (ps_augS (pv 0) pe_int get_list pe_int ip_add set_list) (pss_cons (ps_if (pt_cmpR op_ge (pv 2) (pe_op op_pow pe_int pe_int) (nomark _)) (pss_one (ps_asg (pv 2) (pg_sub (pv 0) pe_int set_list))) pss_nil) hZ), fun z hz => ?_⟩
      obtain ⟨n0, n1, n2, xs, hb, hc, hcb, a0, a1, a1', a2, ax⟩ := id hB
      refine ⟨_, rfl, b, _, 2, _, rfl, rfl, SqL.of hb, rfl, n2, 1, rfl, rfl, b, _, 2, 2, rfl, rfl, hb, rfl, ?_⟩
      have kk : Kp [b] H (upd H b (.lst ([V.int n0, V.int n1, V.int n2, V.ref c].set 2 (V.int (n2 + 1))))) := Kp.refl.upd (.inl (by simp))
      have hb1 : upd H b (.lst ([V.int n0, V.int n1, V.int n2, V.ref c].set 2 (V.int (n2 + 1)))) b = some (.lst [V.int n0, V.int n1, V.int (n2 + 1), V.ref c]) := upd_same
      have hc1 : upd H b (.lst ([V.int n0, V.int n1, V.int n2, V.ref c].set 2 (V.int (n2 + 1)))) c = some (.lst (xs.map V.int)) := by rw [upd_ne hcb]; exact hc
      generalize upd H b (.lst ([V.int n0, V.int n1, V.int n2, V.ref c].set 2 (V.int (n2 + 1)))) = H1 at kk hb1 hc1
      refine ⟨_, rfl, 10, 18, rfl, rfl, ⟨by decide, by decide, by decide⟩, z, _, rfl, rfl, _, rfl, ?_⟩
      refine ite2 (fun hh => ?_) (fun hh => ?_)
      · refine ⟨_, rfl, _, rfl, b, _, 0, 0, rfl, rfl, hb1, rfl, ?_⟩
        exact hGz _ z (kk.upd (.inl (by simp))) ⟨z, n1, n2 + 1, xs, upd_same, by rw [upd_ne hcb]; exact hc1, hcb, hz, a1, a1', by omega, ax⟩
      · exact hGz _ z kk ⟨n0, n1, n2 + 1, xs, hb1, hc1, hcb, a0, a1, a1', by omega, ax⟩
    obtain ⟨ty, hY, hGy⟩ := mid
    refine ⟨_, pss_cons (ps_if (pt_cmpR op_eq (pe_ix ix_list (pv 0) pe_int (fun _ _ => rfl)) pe_int (nomark _))
        (pss_cons (ps_set (i := 2) sc_take.nd rfl (Or.inl rfl) pe_int)
        (pss_cons (ps_if (pt_cmpR op_lt (pe_ix ix_list (pv 0) pe_int (fun _ _ => rfl)) (pe_callB call_len_seq (by rfl) T.n_len PySem.boot_len (pa_cons (pe_ix ix_list (pv 0) pe_int (fun _ _ => rfl)) pa_nil)) (nomark _))
            (pss_one (ps_set (i := 2) sc_take.nd rfl (Or.inl rfl) (pe_ix ix_list (pe_ix ix_list (pv 0) pe_int (fun _ _ => rfl)) (pe_ix ix_list (pv 0) pe_int (fun _ _ => rfl)) (fun _ _ => rfl)))) pss_nil) hY)) pss_nil) hT, ?_⟩
    obtain ⟨n0, n1, n2, xs, hb, hc, hcb, a0, a1, a1', a2, ax⟩ := id hB
    refine ⟨_, rfl, b, _, _, _, rfl, rfl, SqL.of hb, atI_nat (j := 0) rfl, rfl, _, rfl, ?_⟩
    refine ite2 (fun h0 => ?_) (fun h0 => ?_)
    · refine ⟨_, rfl, b, _, _, _, rfl, rfl, SqL.of hb, atI_nat (j := 2) rfl, _, rfl, b, _, _, _, rfl, rfl, SqL.of hb, atI_nat (j := 3) rfl, c, _, rfl, .inl (SqL.of hc), n2, _, rfl, rfl, _, rfl, ?_⟩
      refine ite2 (fun h1 => ?_) (fun h1 => ?_)
      · have h1 := of_decide_eq_true h1
        obtain ⟨j, rfl⟩ := Int.eq_ofNat_of_zero_le a2
        rw [List.length_map] at h1
        have hj : j < xs.length := by omega
        refine ⟨_, rfl, b, _, _, _, rfl, rfl, SqL.of hb, atI_nat (j := 3) rfl, _, rfl, b, _, _, _, rfl, rfl, SqL.of hb, atI_nat (j := 2) rfl, c, _, _, _, rfl, rfl, SqL.of hc, atI_nat (j := j) (v := V.int xs[j]) (by rw [List.getElem?_map, List.getElem?_eq_getElem hj]; rfl), ?_⟩
        exact hGy _ (ax _ (List.getElem_mem hj))
      · exact hGy 0 (by decide)
    · exact hGo _ _ _ Kp.refl hB
end
end Bk

/-! The walks: what is drawn. -/
namespace Bk
open PySem L2 L2.BK

section
variable {P : Program} {w : World} {K : PySem.W.Frag} {mg : Str → Option Value} {base : Heap} (T : Txt P w K mg)
def spAllWays : Sp := fun vs H Q _ => vs = [] ∧ ∀ p, H p = none → Q (.ref p) (upd H p (.lst (WAYSL.map V.str)))
def spOne : Sp := fun vs H Q _ => ∃ b c a xs, vs = [.ref b, .ref a] ∧ BagAt H b c ∧ H a = some (.lst xs) ∧ a ≠ b ∧ 1 ≤ xs.length ∧ xs.length < 1000 ∧ ∀ H' v, Kp [b] H H' → BagAt H' b c → v ∈ xs → Q v H'
def spMixed : Sp := fun vs H Q _ => ∃ (b c a : Addr) (ws : List Str), vs = [.ref b, .ref a] ∧ BagAt H b c ∧ H a = some (.lst (ws.map V.str)) ∧ a ≠ b ∧ ws.length ≤ 100 ∧
  ∀ H' p (zs : List Str), Kp [b] H H' → BagAt H' b c → H p = none → H' p = some (.lst (zs.map V.str)) → zs.Perm ws → Q (.ref p) H'
def spBow : Sp := fun vs H Q _ => ∃ b c n, vs = [.ref b, .int n] ∧ BagAt H b c ∧ 2 ≤ n ∧ n ≤ 100 ∧
  ∀ H' t (x : Bow), Kp [b] H H' → BagAt H' b c → H t = none → H' t = some (.tup [.int x.1, .int x.2]) → 0 ≤ x.1 → x.1 < x.2 → x.2 < n → Q (.ref t) H'
/-- drawn bows -/
def small (n : Int) (x : Bow) : Prop := 0 ≤ x.1 ∧ x.1 < x.2 ∧ x.2 < n
def spBows (K : PySem.W.Frag) : Sp := fun vs H Q _ => ∃ b c m n, vs = [.ref b, .int m, .int n] ∧ BagAt H b c ∧ 0 ≤ m ∧ m ≤ 10 ∧ 2 ≤ n ∧ n ≤ 100 ∧
  ∀ H' p us bs, Kp [b] H H' → BagAt H' b c → H p = none → H' p = some (.lst us) → (∀ M, Dom M H → b ∈ M → DpAll K (hide (p :: M) H') us (bowsD bs)) → (∀ x ∈ bs, small n x) → (bs.length : Int) = m → Q (.ref p) H'
def spWaysDrawn : Sp := fun vs H Q _ => ∃ b c, vs = [.ref b] ∧ BagAt H b c ∧ ∀ H' p (zs : List Str), Kp [b] H H' → BagAt H' b c → H p = none → H' p = some (.lst (zs.map V.str)) → (∀ x ∈ zs, x ∈ WAYSL) → zs.length ≤ 7 → Q (.ref p) H'
def spOther : Sp := fun vs H Q _ => ∃ (a : Addr) (zs : List Str), vs = [.ref a] ∧ H a = some (.lst (zs.map V.str)) ∧ ∀ H' p, Same H H' → H p = none → H' p = some (.lst ((WAYSL.filter fun x => !zs.contains x).map V.str)) → Q (.ref p) H'

theorem sc_allWays : FnScope [] [] (defScope s_allWays) := ⟨rfl, rfl, rfl, by decide +kernel, rfl, by decide +kernel, by decide +kernel⟩
theorem ok_allWays : FnOk P w K mg base CX0 1 T.allWays.f T.allWays.fd [] spAllWays := by
  refine T.allWays.F.ok sc_allWays (fun vs H Q E h => ?_) (fun cdv A outer s H vs Q E hr h => ?_)
  · obtain ⟨rfl, _⟩ := h
    rfl
  · obtain ⟨rfl, q⟩ := h
    refine ⟨_, pss_one (ps_ret (pe_lst (pa_cons pe_str (pa_cons pe_str (pa_cons pe_str (pa_cons pe_str (pa_cons pe_str (pa_cons pe_str (pa_cons pe_str pa_nil))))))))), ?_⟩
    exact ⟨by show 7 ≤ sizeLine; decide, fun p np => q p np⟩

theorem sc_one : FnScope ["_law_bag_here", "_law_things"] ["_law_bag_here", "_law_things"] (defScope s_one) := ⟨rfl, rfl, rfl, by decide +kernel, rfl, by decide +kernel, by decide +kernel⟩
theorem ok_one : FnOk P w K mg base CX0 2 T.one.f T.one.fd ["_law_bag_here", "_law_things"] spOne := by
  refine T.one.F.ok sc_one (fun vs H Q E h => ?_) (fun cdv A outer s H vs Q E hr h => ?_)
  · obtain ⟨b, c, a, xs, rfl, _⟩ := h
    rfl
  · obtain ⟨b, c, a, xs, rfl, hB, ha, nab, h1, h2, q⟩ := h
    have gT : FnOk P w K mg base CX0 1 T.take.f T.take.fd ["_law_bag_here", "_law_many"] spTake := ok_take T
    refine ⟨_, pss_one (ps_ret (pe_ix ix_list (pv 1) (pe_call gT hr (by rfl) T.take.mg T.take.F.kp T.take.b .nil pass0 (pa_cons (pv 0) (pa_cons (pe_callB call_len_seq (by rfl) T.n_len PySem.boot_len (pa_cons (pv 1) pa_nil)) pa_nil))) (fun _ _ => rfl))), ?_⟩
    refine ⟨_, rfl, _, rfl, _, rfl, a, xs, rfl, .inl (SqL.of ha), b, c, _, rfl, hB, by omega, by omega, fun H' d k hB' d0 d1 => ?_⟩
    obtain ⟨j, rfl⟩ := Int.eq_ofNat_of_zero_le d0
    have hj : j < xs.length := by omega
    exact ⟨a, xs, _, xs[j], rfl, rfl, SqL.of (k.at (by simpa using nab) ha), atI_nat (j := j) (List.getElem?_eq_getElem hj), q _ _ k hB' (List.getElem_mem hj)⟩

theorem sc_mixed : FnScope ["_law_bag_here", "_law_things", "_law_found", "_law_thing"] ["_law_bag_here", "_law_things"] (defScope s_mixed) := ⟨rfl, rfl, rfl, by decide +kernel, rfl, by decide +kernel, by decide +kernel⟩
theorem insert_perm {α : Type} (xs : List α) (y : α) (n : Nat) : (xs.take n ++ [y] ++ xs.drop n).Perm (xs ++ [y]) := by
  rw [List.append_assoc]
  have h1 : (xs.take n ++ ([y] ++ xs.drop n)).Perm (xs.take n ++ (xs.drop n ++ [y])) := (List.perm_append_comm).append_left _
  have h2 : xs.take n ++ (xs.drop n ++ [y]) = xs ++ [y] := by rw [← List.append_assoc, List.take_append_drop]
  exact h2 ▸ h1
theorem ok_mixed : FnOk P w K mg base CX0 2 T.mixed.f T.mixed.fd ["_law_bag_here", "_law_things"] spMixed := by
  refine T.mixed.F.ok sc_mixed (fun vs H Q E h => ?_) (fun cdv A outer s H vs Q E hr h => ?_)
  · obtain ⟨b, c, a, ws, rfl, _⟩ := h
    rfl
  · obtain ⟨b, c, a, ws, rfl, hB, ha, nab, hl, q⟩ := h
    have gT : FnOk P w K mg base CX0 1 T.take.f T.take.fd ["_law_bag_here", "_law_many"] spTake := ok_take T
    refine ⟨_, pss_cons (ps_set (i := 2) sc_mixed.nd rfl (Or.inl rfl) (pe_lst pa_nil))
      (pss_cons (ps_for PassesOwn.never rfl (pi_list (pv 1)) (pg_name (i := 3) sc_mixed.nd rfl (Or.inl rfl))
        (pss_one (ps_expr (pe_bm PySem.F.plainAttrs_list PySem.F.slot_list_insert PySem.F.type_list_insert mt_insert (pv 2)
          (pa_cons (pe_call gT hr (by rfl) T.take.mg T.take.F.kp T.take.b .nil pass0 (pa_cons (pv 0) (pa_cons (pe_op op_add (pe_callB call_len_seq (by rfl) T.n_len PySem.boot_len (pa_cons (pv 2) pa_nil)) pe_int) pa_nil))) (pa_cons (pv 3) pa_nil))))))
      (pss_one (ps_ret (pv 2)))), ?_⟩
    refine ⟨Nat.zero_le _, fun p np => ?_⟩
    have pa : p ≠ a := (ne_of_none ha np).symm
    have pb := hB.ne np
    refine ⟨_, rfl, a, rfl, ⟨_, SqL.of (by rw [upd_ne pa.symm]; exact ha)⟩, ?_⟩
    refine for_list (xs := ws.map V.str) (fun i σ H' => (∃ x, σ = [some (.ref b), some (.ref a), some (.ref p), x]) ∧ BagAt H' b c ∧ Kp [b, p] H H' ∧ H' a = some (.lst (ws.map V.str)) ∧ ∃ zs : List Str, H' p = some (.lst (zs.map V.str)) ∧ zs.Perm (ws.take i)) ?_ (fun i σ H' _ z => SqL.of z.2.2.2.1) (fun i x σ H' hx z => ?_) (fun σ H' z => ?_)
    · exact ⟨⟨_, rfl⟩, hB.up (fun _ e => by rw [upd_ne pb.1.symm]; exact e) (fun _ e => by rw [upd_ne pb.2.symm]; exact e), Kp.refl.upd (.inl (by simp)), by rw [upd_ne pa.symm]; exact ha, [], upd_same, .nil⟩
    · obtain ⟨⟨x', rfl⟩, hB', k, ha', zs, hp, hz⟩ := z
      have hi : i < ws.length := by
        have z := (List.getElem?_eq_some_iff.mp hx).1
        rw [List.length_map] at z
        exact z
      rw [List.getElem?_map, List.getElem?_eq_getElem hi] at hx
      cases hx
      have hzl : zs.length = i := by rw [hz.length_eq, List.length_take]; omega
      refine ⟨_, rfl, .inl ⟨rfl, _, SqL.of hp⟩, _, rfl, _, rfl, p, _, rfl, .inl (SqL.of hp), _, _, rfl, rfl, b, c, _, rfl, hB', by omega, by rw [List.length_map]; omega, fun H2 d k2 hB2 d0 d1 => ?_⟩
      have hp2 := k2.at (by simpa using pb.1) hp
      obtain ⟨j, rfl⟩ := Int.eq_ofNat_of_zero_le d0
      rw [List.length_map] at d1
      refine ⟨_, rfl, p, zs.map V.str, _, _, rfl, rfl, hp2, by rw [List.length_map, PySem.sizeLine_eq]; omega, d0, by omega, ?_⟩
      refine ⟨⟨_, rfl⟩, hB2.up (fun _ e => by rw [upd_ne pb.1.symm]; exact e) (fun _ e => by rw [upd_ne pb.2.symm]; exact e), (k.trans (k2.mono (by simp))).upd (.inl (by simp)), by rw [upd_ne pa.symm]; exact k2.at (by simpa using nab) ha', zs.take j ++ [ws[i]] ++ zs.drop j, ?_, ?_⟩
      · rw [upd_same]
        simp only [List.map_append, List.map_take, List.map_drop, Int.toNat_natCast]
        rfl
      · rw [take_snoc hi]
        exact (insert_perm zs ws[i] j).trans (hz.append_right _)
    · obtain ⟨⟨x', rfl⟩, hB', k, ha', zs, hp, hz⟩ := z
      have e : ws.take (ws.map V.str).length = ws := by rw [List.length_map, List.take_length]
      rw [e] at hz
      refine ⟨_, rfl, q H' p zs ⟨fun a' o n e' => k.at ?_ e', k.live⟩ hB' np hp hz⟩
      intro m
      rcases List.mem_cons.mp m with m | m
      · exact n (by rw [m]; simp)
      · have m := List.mem_singleton.mp m
        subst m
        rw [np] at e'
        cases e'

theorem sc_bow : FnScope ["_law_bag_here", "_law_places", "_law_begin"] ["_law_bag_here", "_law_places"] (defScope s_bow) := ⟨rfl, rfl, rfl, by decide +kernel, rfl, by decide +kernel, by decide +kernel⟩
theorem ok_bow : FnOk P w K mg base CX0 2 T.bow.f T.bow.fd ["_law_bag_here", "_law_places"] spBow := by
  refine T.bow.F.ok sc_bow (fun vs H Q E h => ?_) (fun cdv A outer s H vs Q E hr h => ?_)
  · obtain ⟨b, c, n, rfl, _⟩ := h
    rfl
  · obtain ⟨b, c, n, rfl, hB, h1, h2, q⟩ := h
    have gT : FnOk P w K mg base CX0 1 T.take.f T.take.fd ["_law_bag_here", "_law_many"] spTake := ok_take T
    refine ⟨_, pss_cons (ps_set (i := 2) sc_bow.nd rfl (Or.inl rfl) (pe_call gT hr (by rfl) T.take.mg T.take.F.kp T.take.b .nil pass0 (pa_cons (pv 0) (pa_cons (pe_op op_sub (pv 1) pe_int) pa_nil))))
      (pss_one (ps_ret (pe_tup (pa_cons (pv 2) (pa_cons (pe_op op_add (pe_op op_add (pv 2) pe_int) (pe_call gT hr (by rfl) T.take.mg T.take.F.kp T.take.b .nil pass0 (pa_cons (pv 0) (pa_cons (pe_op op_sub (pe_op op_sub (pv 1) pe_int) (pv 2)) pa_nil)))) pa_nil))))), ?_⟩
    refine ⟨_, rfl, _, rfl, _, _, rfl, rfl, b, c, n - 1, rfl, hB, by omega, by omega, fun H1 d k1 hB1 d0 d1 => ?_⟩
    refine ⟨_, rfl, _, rfl, _, _, rfl, rfl, _, rfl, _, rfl, _, _, rfl, rfl, _, rfl, _, _, rfl, rfl, b, c, n - 1 - d, rfl, hB1, by omega, by omega, fun H2 e k2 hB2 e0 e1 => ?_⟩
    refine ⟨_, _, rfl, rfl, by show 2 ≤ sizeLine; decide, fun t nt => ?_⟩
    have pb := hB2.ne nt
    have k := k1.trans k2
    exact q _ t (d, d + 1 + e) (k.upd (.inr nt)) (hB2.up (fun _ e => by rw [upd_ne pb.1.symm]; exact e) (fun _ e => by rw [upd_ne pb.2.symm]; exact e)) (k.free nt) upd_same d0 (by show d < d + 1 + e; omega) (by show d + 1 + e < n; omega)

theorem sc_waysDrawn : FnScope ["_law_bag_here", "_law_name"] ["_law_bag_here"] (defScope s_waysDrawn) := ⟨rfl, rfl, rfl, by decide +kernel, rfl, by decide +kernel, by decide +kernel⟩
theorem ok_waysDrawn : FnOk P w K mg base CX0 2 T.waysDrawn.f T.waysDrawn.fd ["_law_bag_here"] spWaysDrawn := by
  refine T.waysDrawn.F.ok sc_waysDrawn (fun vs H Q E h => ?_) (fun cdv A outer s H vs Q E hr h => ?_)
  · obtain ⟨b, c, rfl, _⟩ := h
    rfl
  · obtain ⟨b, c, rfl, hB, q⟩ := h
    have gT : FnOk P w K mg base CX0 1 T.take.f T.take.fd ["_law_bag_here", "_law_many"] spTake := ok_take T
    have gW : FnOk P w K mg base CX0 1 T.allWays.f T.allWays.fd [] spAllWays := ok_allWays T
    refine ⟨_, pss_one (ps_ret (pe_lc (own := [("_law_name", 1)]) (g := gName 1) (by rfl) sc_waysDrawn.nd (pi_list (pe_call0 gW hr (by rfl) T.allWays.mg T.allWays.F.kp T.allWays.b .nil pass0)) (blkOk_by (own := [("_law_name", 1)]) (N := ["_law_bag_here", "_law_name"]) (sc := defScope s_waysDrawn) (by decide +kernel))
          (fun _ _ _ _ _ => pg_name (i := 1) sc_waysDrawn.nd rfl (Or.inl rfl)) (fun _ _ _ _ _ => pts_one (pt_cmpR op_eq (pe_call gT hr (by rfl) T.take.mg T.take.F.kp T.take.b .nil pass0 (pa_cons (pv 0) (pa_cons pe_int pa_nil))) pe_int (nomark _)))
          (fun _ _ _ _ _ => pv 1))), ?_⟩
    refine ⟨rfl, fun a na => ?_⟩
    have s1 : Same H (upd H a (.lst (WAYSL.map V.str))) := same_upd (Same.refl H) na
    have ha : upd H a (.lst (WAYSL.map V.str)) a = some (.lst (WAYSL.map V.str)) := upd_same
    have nab := hB.ne na
    generalize upd H a (.lst (WAYSL.map V.str)) = H1 at s1 ha
    have hB1 := hB.same s1
    refine ⟨a, rfl, ⟨_, SqL.of ha⟩, fun D hD => ?_⟩
    have Db := hB1.ne hD
    have Da : D ≠ a := (ne_of_none ha hD).symm
    refine lc_list (K := K) (xs := WAYSL.map V.str) (fun i H' => BagAt H' b c ∧ Kp [b, D] H1 H' ∧ ∃ zs : List Str, H' D = some (.lst (zs.map V.str)) ∧ (∀ x ∈ zs, x ∈ WAYSL) ∧ zs.length ≤ i) ⟨hB1.up (fun _ e => by rw [upd_ne Db.1.symm]; exact e) (fun _ e => by rw [upd_ne Db.2.symm]; exact e), Kp.refl.upd (.inl (by simp)), [], upd_same, by simp, Nat.le_refl _⟩ (fun i H' _ q => SqL.of (q.2.1.at (by simp [nab.1, Da.symm]) ha)) (fun i x H' hx z => ?_) (fun H' z => ?_)
    · obtain ⟨hB', k, zs, hz, hm, hl⟩ := z
      have hi : i < WAYSL.length := by
        have z := (List.getElem?_eq_some_iff.mp hx).1
        rw [List.length_map] at z
        exact z
      have hi7 : i < 7 := hi
      rw [List.getElem?_map, List.getElem?_eq_getElem hi] at hx
      cases hx
      refine ⟨rfl, _, rfl, b, c, 2, rfl, hB', by decide, by decide, fun H2 d k2 hB2 d0 d1 => ⟨rfl, _, rfl, ?_⟩⟩
      have hz2 := k2.at (by simpa using Db.1) hz
      have kk := k.trans (k2.mono (by simp))
      refine ite2 (fun _ => ?_) (fun _ => ?_)
      · refine ⟨_, rfl, _, hz2, by rw [List.length_map, PySem.sizeLine_eq]; omega, ?_⟩
        refine ⟨hB2.up (fun _ e => by rw [upd_ne Db.1.symm]; exact e) (fun _ e => by rw [upd_ne Db.2.symm]; exact e), kk.upd (.inl (by simp)), zs ++ [WAYSL[i]], by rw [upd_same, List.map_append]; rfl, fun x hx => ?_, by rw [List.length_append]; show zs.length + 1 ≤ _; omega⟩
        rcases List.mem_append.mp hx with h | h
        · exact hm x h
        · rw [List.mem_singleton.mp h]
          exact List.getElem_mem hi
      · exact ⟨hB2, kk, zs, hz2, hm, by omega⟩
    · obtain ⟨hB', k, zs, hz, hm, hl⟩ := z
      refine q H' D zs ⟨fun a' o n e' => k.at ?_ (s1 _ _ e'), fun a' o e' => k.live _ _ (s1 _ _ e')⟩ hB' (s1.free hD) hz hm hl
      intro m
      rcases List.mem_cons.mp m with m | m
      · exact n (by rw [m]; simp)
      · have m := List.mem_singleton.mp m
        subst m
        have z := s1 _ _ e'
        rw [hD] at z
        cases z

theorem sc_other : FnScope ["_law_ways", "_law_name"] ["_law_ways"] (defScope s_other) := ⟨rfl, rfl, rfl, by decide +kernel, rfl, by decide +kernel, by decide +kernel⟩
theorem ok_other : FnOk P w K mg base CX0 2 T.other.f T.other.fd ["_law_ways"] spOther := by
  refine T.other.F.ok sc_other (fun vs H Q E h => ?_) (fun cdv A outer s H vs Q E hr h => ?_)
  · obtain ⟨a, zs, rfl, _⟩ := h
    rfl
  · obtain ⟨a, zs, rfl, ha, q⟩ := h
    have gW : FnOk P w K mg base CX0 1 T.allWays.f T.allWays.fd [] spAllWays := ok_allWays T
    refine ⟨_, pss_one (ps_ret (pe_lc (own := [("_law_name", 1)]) (g := gName 1) (by rfl) sc_other.nd (pi_list (pe_call0 gW hr (by rfl) T.allWays.mg T.allWays.F.kp T.allWays.b .nil pass0)) (blkOk_by (own := [("_law_name", 1)]) (N := ["_law_ways", "_law_name"]) (sc := defScope s_other) (by decide +kernel))
          (fun _ _ _ _ _ => pg_name (i := 1) sc_other.nd rfl (Or.inl rfl)) (fun _ _ _ _ _ => pts_one (pt_cmpR (r := rIn K true) op_notIn_seq (pv 1) (pv 0) (by rfl)))
          (fun _ _ _ _ _ => pv 1))), ?_⟩
    refine ⟨rfl, fun o no => ?_⟩
    have s1 : Same H (upd H o (.lst (WAYSL.map V.str))) := same_upd (Same.refl H) no
    have ho : upd H o (.lst (WAYSL.map V.str)) o = some (.lst (WAYSL.map V.str)) := upd_same
    generalize upd H o (.lst (WAYSL.map V.str)) = H1 at s1 ho
    refine ⟨o, rfl, ⟨_, SqL.of ho⟩, fun D hD => ?_⟩
    refine lc_list (K := K) (xs := WAYSL.map V.str) (fun i H' => Same H1 H' ∧ H' D = some (.lst (((WAYSL.take i).filter fun y => !zs.contains y).map V.str))) ⟨same_upd (Same.refl _) hD, upd_same⟩ (fun i H' _ q => SqL.of (q.1 _ _ ho)) (fun i x H' hx q' => ?_) (fun H' q' => ?_)
    · have hi : i < WAYSL.length := by
        have z := (List.getElem?_eq_some_iff.mp hx).1
        rw [List.length_map] at z
        exact z
      have hi7 : i < 7 := hi
      rw [List.getElem?_map, List.getElem?_eq_getElem hi] at hx
      cases hx
      refine ⟨rfl, ?_⟩
      refine ⟨_, rfl, _, rfl, a, _, rfl, .inl (SqL.of (q'.1 _ _ (s1 _ _ ha))), rfl, flat_strs _, _, rfl, ?_⟩
      rw [inStrs]
      refine ite2 (fun hc => ?_) (fun hc => ?_) <;> rw [if_pos rfl] at hc
      · refine ⟨_, rfl, _, q'.2, ?_, same_mut q'.1 hD, ?_⟩
        · rw [List.length_map, PySem.sizeLine_eq]
          have := List.length_filter_le (fun y => !zs.contains y) (WAYSL.take i)
          rw [List.length_take] at this
          omega
        · rw [upd_same, filt_snoc _ _ _ hi, if_pos hc, List.map_append]
          rfl
      · refine ⟨q'.1, ?_⟩
        rw [q'.2, filt_snoc _ _ _ hi, if_neg hc, List.append_nil]
    · have q2 : H' D = some (.lst ((WAYSL.filter fun y => !zs.contains y).map V.str)) := by
        rw [q'.2, List.length_map, List.take_length]
      exact q H' D (s1.trans q'.1) (s1.free hD) q2
end
end Bk

/-! The walks: bows and edits drawn. -/
namespace Bk
open PySem L2 L2.BK

section
variable {P : Program} {w : World} {K : PySem.W.Frag} {mg : Str → Option Value} {base : Heap} (T : Txt P w K mg)
theorem BagAt.out {H : Hp} {b c a : Addr} {o : HO} (h : BagAt H b c) (n : a ≠ b ∧ a ≠ c) : BagAt (upd H a o) b c :=
  h.up (fun _ e => by rw [upd_ne n.1.symm]; exact e) (fun _ e => by rw [upd_ne n.2.symm]; exact e)
/-- what is drawn, at p -/
def Drawn (K : PySem.W.Frag) (H : Hp) (b c : Addr) (H' : Hp) (p : Addr) (us : List V) (ds : List PyData) : Prop :=
  Kp [b] H H' ∧ BagAt H' b c ∧ H p = none ∧ H' p = some (.lst us) ∧ ∀ M, Dom M H → b ∈ M → DpAll K (hide (p :: M) H') us ds
def spSpread (K : PySem.W.Frag) : Sp := fun vs H Q _ => ∃ b c p us bs, vs = [.ref b, .ref p] ∧ BagAt H b c ∧ p ≠ b ∧ H p = some (.lst us) ∧ DpAll K (hide [b] H) us (bowsD bs) ∧ (∀ x ∈ bs, small 20 x) ∧ bs.length ≤ 10 ∧
  ∀ H' q us' bs', Drawn K H b c H' q us' (bowsD bs') → (∀ x ∈ bs', okBow x) → bs'.length = bs.length → Q (.ref q) H'
def spDrawnBows (K : PySem.W.Frag) : Sp := fun vs H Q _ => ∃ b c m, vs = [.ref b, .int m] ∧ BagAt H b c ∧ 0 ≤ m ∧ m ≤ 9 ∧
  ∀ H' q us' bs', Drawn K H b c H' q us' (bowsD bs') → (∀ x ∈ bs', okBow x) → bs'.length ≤ 9 → Q (.ref q) H'

theorem sq_lt {a b : Int} (h0 : 0 ≤ a) (h1 : a < b) : a * a < b * b :=
  Int.lt_of_le_of_lt (Int.mul_le_mul_of_nonneg_left (Int.le_of_lt h1) h0) (Int.mul_lt_mul_of_pos_right h1 (by omega))
theorem dom_acc {F : List Addr} {H : Hp} {D : Addr} {H' : Hp} {acc : List V} {ds : List PyData} (A : Acc K F H D H' acc ds) {t : Addr} {M : List Addr} (dM : Dom M H) (nt : H' t = none) : t ∉ D :: M := hide_new (A.dom dM) nt
theorem sc_bows : FnScope ["_law_bag_here", "_law_many", "_law_places", "_law_found", "_law_k"] ["_law_bag_here", "_law_many", "_law_places"] (defScope s_bows) := ⟨rfl, rfl, rfl, by decide +kernel, rfl, by decide +kernel, by decide +kernel⟩
theorem ok_bows : FnOk P w K mg base CX0 3 T.bows.f T.bows.fd ["_law_bag_here", "_law_many", "_law_places"] (spBows K) := by
  refine T.bows.F.ok sc_bows (fun vs H Q E h => ?_) (fun cdv A outer s H vs Q E hr h => ?_)
  · obtain ⟨b, c, m, n, rfl, _⟩ := h
    rfl
  · obtain ⟨b, c, m, n, rfl, hB, m0, m1, n0, n1, q⟩ := h
    have gT : FnOk P w K mg base CX0 1 T.take.f T.take.fd ["_law_bag_here", "_law_many"] spTake := ok_take T
    have gB : FnOk P w K mg base CX0 2 T.bow.f T.bow.fd ["_law_bag_here", "_law_places"] spBow := ok_bow T
    have hr1 : Room 1 _ := hr.mono (by decide)
    refine ⟨_, pss_cons (ps_setLc (i := 3) (own := [("_law_k", 4)]) (g := gName 4) (tt := tYes) (by rfl) sc_bows.nd rfl rfl (sw_true rfl rfl rfl (by decide +kernel)) (pi_range1 (by rfl) T.n_range (pa_cons (pv 1) pa_nil)) (blkOk_by (own := [("_law_k", 4)]) (N := ["_law_bag_here", "_law_many", "_law_places", "_law_found", "_law_k"]) (sc := defScope s_bows) (by decide +kernel))
          (fun _ _ _ _ _ => pg_name (i := 4) sc_bows.nd rfl (Or.inl rfl)) (fun _ _ _ _ _ => pts_nil)
          (fun _ _ _ _ _ => pe_call gB hr (by rfl) T.bow.mg T.bow.F.kp T.bow.b .nil pass0 (pa_cons (pv 0) (pa_cons (pv 2) pa_nil))))
      (pss_cons (ps_if (PW.pt (pw_and (pt_cmpR op_gt (pv 1) pe_int (nomark _)) (pw_and1 (pt_cmpR op_eq (pe_call gT hr1 (by rfl) T.take.mg T.take.F.kp T.take.b .nil pass0 (pa_cons (pv 0) (pa_cons pe_int pa_nil))) pe_int (nomark _)))))
          (pss_one (ps_asg (pe_ix ix_list (pv 3) pe_int (fun _ _ => rfl)) (pg_sub (pv 3) (pe_un un_neg pe_int) set_list))) pss_nil)
      (pss_one (ps_ret (pv 3)))), ?_⟩
    obtain ⟨mn, rfl⟩ := Int.eq_ofNat_of_zero_le m0
    refine ⟨_, rfl, _, rfl, by omega, by omega, fun D hD => ?_⟩
    have nD := hB.ne hD
    refine lc_range (lo := 0) (n := (Int.toNat (mn : Int))) (fun i H' => BagAt H' b c ∧ ∃ acc bs, Acc K [b] H D H' acc (bowsD bs) ∧ (∀ x ∈ bs, small n x) ∧ bs.length = i) ⟨hB.out nD, [], [], Acc.start hD, by simp, rfl⟩ (fun i H' hi z => ?_) (fun H' z => ?_)
    · obtain ⟨hB', acc, bs, A, hs, hl⟩ := z
      refine ⟨rfl, yes (iteT ?_)⟩
      refine ⟨_, rfl, _, rfl, b, c, n, rfl, hB', n0, n1, fun H2 t x k hB2 nt ht x0 x1 x2 => ?_⟩
      have hAl := dpAll_len (A.dat [b] (.cons hB.live.1.choose_spec .nil) (by simp))
      have e2 : (bowsD bs).length = bs.length := List.length_map _
      rw [e2, hl] at hAl
      have hmn : i < mn := by simpa using hi
      refine ⟨acc, k.at (by simpa using nD.1) A.at_, by rw [hAl, PySem.sizeLine_eq]; omega, hB2.out nD, acc ++ [.ref t], bs ++ [x], ?_, fun y hy => ?_, by rw [List.length_append, hl]; rfl⟩
      · have z := A.push k fun M dM hF => bow_mk (K := K) (b := x) (SqT.of (hide_get (dom_acc A dM nt) ht))
        have e : bowsD (bs ++ [x]) = bowsD bs ++ [bowD x] := List.map_append
        rw [e]
        exact z
      · rcases List.mem_append.mp hy with h | h
        · exact hs y h
        · rw [List.mem_singleton.mp h]
          exact ⟨x0, x1, x2⟩
    · obtain ⟨hB', acc, bs, A, hs, hl⟩ := z
      have hl : bs.length = mn := by simpa using hl
      have hAl := dpAll_len (A.dat [b] (.cons hB.live.1.choose_spec .nil) (by simp))
      have e2 : (bowsD bs).length = bs.length := List.length_map _
      rw [e2, hl] at hAl
      refine ⟨_, rfl, _, _, rfl, rfl, _, rfl, ite2 (fun h1 => ?_) (fun h1 => ?_)⟩
      · have h1 : (1 : Int) < (mn : Int) := of_decide_eq_true h1
        refine ⟨_, rfl, b, c, 4, rfl, hB', by decide, by decide, fun H2 d k hB2 d0 d1 => ⟨rfl, _, rfl, ?_⟩⟩
        have hat := k.at (by simpa using nD.1) A.at_
        have dat : ∀ M, Dom M H → b ∈ M → DpAll K (hide (D :: M) H2) acc (bowsD bs) := fun M dM hb => dpAll_up (k.hide fun a h => List.mem_cons_of_mem _ (by rw [List.mem_singleton.mp h]; exact hb)) (A.dat M dM fun a h => by rw [List.mem_singleton.mp h]; exact hb)
        refine ite2 (fun _ => ?_) (fun _ => ?_)
        · have h0 : 0 < acc.length := by omega
          have hb0 : 0 < bs.length := by omega
          refine ⟨_, rfl, D, acc, _, acc[0], rfl, rfl, SqL.of hat, atI_nat (j := 0) (List.getElem?_eq_getElem h0), ?_⟩
          have hix : ixN acc.length (-1) = some (acc.length - 1) := by
            unfold ixN
            rw [if_neg (by omega), if_pos (by omega)]
            congr 1
            omega
          refine ⟨_, rfl, _, rfl, D, acc, _, _, rfl, rfl, hat, hix, ?_⟩
          refine ⟨_, rfl, q _ D _ (bs.set (acc.length - 1) bs[0]) ?_ (hB2.out nD) hD upd_same (fun M dM hb => ?_) (fun y hy => ?_) (by rw [List.length_set, hl])⟩
          · refine ⟨fun a' o n' e' => ?_, fun a' o e' => ?_⟩
            · rw [upd_ne (ne_of_none e' hD)]
              exact (A.kp.trans k).at n' e'
            · rw [upd_ne (ne_of_none e' hD)]
              exact (A.kp.trans k).live _ _ e'
          · rw [hide_upd List.mem_cons_self]
            have z := dat M dM hb
            have e : bowsD (bs.set (acc.length - 1) bs[0]) = (bowsD bs).set (acc.length - 1) (bowD bs[0]) := List.map_set
            rw [e]
            refine dpAll_set _ z ?_
            obtain ⟨v, h3, h4⟩ := dpAll_get (i := 0) (d := bowD bs[0]) z (by unfold bowsD; rw [List.getElem?_map, List.getElem?_eq_getElem hb0]; rfl)
            rw [List.getElem?_eq_getElem h0] at h3
            cases h3
            exact h4
          · rcases List.mem_or_eq_of_mem_set hy with h | h
            · exact hs y h
            · rw [h]
              exact hs _ (List.getElem_mem hb0)
        · refine ⟨_, rfl, q H2 D acc bs ?_ hB2 hD hat dat hs (by rw [hl])⟩
          exact A.kp.trans k
      · refine ⟨_, rfl, q H' D acc bs A.kp hB' hD A.at_ (fun M dM hb => A.dat M dM fun a h => by rw [List.mem_singleton.mp h]; exact hb) hs (by rw [hl])⟩

theorem spread_lc {H : Hp} {Q : VK} {te : TE} {b p : Addr} {x y : Option V} {us : List V} {bs : List Bow} (f : Bow → Bow)
    (hte : ∀ (z : Bow) (H2 : Hp) (Q' : VK), z ∈ bs → (∀ t, H2 t = none → Q' (.ref t) (upd H2 t (.tup [.int (f z).1, .int (f z).2]))) → te [some (.ref b), some (.ref p), x, y, some (.int z.1), some (.int z.2)] H2 Q')
    (hp : H p = some (.lst us)) (hd : DpAll K H us (bowsD bs)) (hl : bs.length ≤ 10)
    (hQ : ∀ H' q us', Same H H' → H q = none → H' q = some (.lst us') → (∀ M, Dom M H → DpAll K (hide (q :: M) H') us' (bowsD (bs.map f))) → Q (.ref q) H') :
    tLc (iList K (tVar 1)) (gTup K 2 (gCons (gName 4) (gCons (gName 5) gNil))) tYes te [4, 5] [some (.ref b), some (.ref p), x, y, none, none] H Q := by
  have hlen : us.length = bs.length := (dpAll_len hd).trans (List.length_map _)
  refine ⟨_, rfl, p, rfl, ⟨us, SqL.of hp⟩, fun D hD => ?_⟩
  refine lc_list (K := K) (xs := us) (fun i H' => ∃ acc, Acc K [] H D H' acc (bowsD ((bs.map f).take i))) ⟨[], Acc.start hD⟩ (fun i H' _ ⟨_, q⟩ => SqL.of (q.kp.same _ _ hp)) (fun i v H' hx q => ?_) (fun H' q => ?_)
  · obtain ⟨acc, A⟩ := q
    have hi : i < bs.length := by rw [← hlen]; exact (List.getElem?_eq_some_iff.mp hx).1
    obtain ⟨x', e1, hx'⟩ := dpAll_get (i := i) (d := bowD bs[i]) hd (by unfold bowsD; rw [List.getElem?_map, List.getElem?_eq_getElem hi]; rfl)
    rw [hx] at e1
    cases e1
    obtain ⟨t0, rfl, ht0⟩ := bow_inv hx'
    refine ⟨t0, _, rfl, Same.seqT A.kp.same ht0, rfl, _, _, rfl, _, _, rfl, rfl, rfl, yes (iteT ?_)⟩
    refine hte bs[i] H' _ (List.getElem_mem hi) fun t nt => ?_
    have hDt : D ≠ t := ne_of_none A.at_ nt
    have hAl := (dpAll_len (A.dat [] Dom.nil (by simp)))
    refine ⟨acc, by rw [upd_ne hDt]; exact A.at_, ?_, acc ++ [.ref t], ?_⟩
    · rw [hAl, PySem.sizeLine_eq]
      unfold bowsD
      rw [List.length_map, List.length_take]
      omega
    · have e : bowsD ((bs.map f).take (i + 1)) = bowsD ((bs.map f).take i) ++ [bowD (f bs[i])] := by
        rw [take_snoc (by rw [List.length_map]; exact hi)]
        unfold bowsD
        rw [List.map_append, List.getElem_map]
        rfl
      rw [e]
      exact A.push (Kp.refl.upd (.inr nt)) fun M hM _ => bow_mk (b := f bs[i]) (SqT.of (hide_get (hide_new (A.dom hM) nt) upd_same))
  · obtain ⟨acc, A⟩ := q
    have e : bowsD ((bs.map f).take us.length) = bowsD (bs.map f) := by rw [List.take_of_length_le (by rw [List.length_map, hlen]; exact Nat.le_refl _)]
    rw [e] at A
    exact hQ H' D acc A.kp.same hD A.at_ fun M dM => A.dat M dM (by simp)

theorem sc_spread : FnScope ["_law_bag_here", "_law_bows_here", "_law_way", "_law_by", "_law_begin", "_law_end"] ["_law_bag_here", "_law_bows_here"] (defScope s_spread) := ⟨rfl, rfl, rfl, by decide +kernel, rfl, by decide +kernel, by decide +kernel⟩
theorem ok_spread : FnOk P w K mg base CX0 2 T.spread.f T.spread.fd ["_law_bag_here", "_law_bows_here"] (spSpread K) := by
  refine T.spread.F.ok sc_spread (fun vs H Q E h => ?_) (fun cdv A outer s H vs Q E hr h => ?_)
  · obtain ⟨b, c, p, us, bs, rfl, _⟩ := h
    rfl
  · obtain ⟨b, c, p, us, bs, rfl, hB, npb, hp, hd, hs, hl, q⟩ := h
    have gT : FnOk P w K mg base CX0 1 T.take.f T.take.fd ["_law_bag_here", "_law_many"] spTake := ok_take T
    refine ⟨_, pss_cons (ps_set (i := 2) sc_spread.nd rfl (Or.inl rfl) (pe_call gT hr (by rfl) T.take.mg T.take.F.kp T.take.b .nil pass0 (pa_cons (pv 0) (pa_cons pe_int pa_nil))))
      (pss_cons (ps_if (pt_cmpR op_eq (pv 2) pe_int (nomark _)) (pss_one (ps_ret (pe_lc (own := [("_law_begin", 4), ("_law_end", 5)]) (tt := tYes) (by rfl) sc_spread.nd (pi_list (pv 1)) (blkOk_by (own := [("_law_begin", 4), ("_law_end", 5)]) (N := ["_law_bag_here", "_law_bows_here", "_law_way", "_law_by", "_law_begin", "_law_end"]) (sc := defScope s_spread) (by decide +kernel))
          (g := gTup K 2 (gCons (gName 4) (gCons (gName 5) gNil))) (fun _ _ _ _ _ => pg_tup rfl (pgs_cons (pg_name (i := 4) sc_spread.nd rfl (Or.inl rfl)) (pgs_cons (pg_name (i := 5) sc_spread.nd rfl (Or.inl rfl)) pgs_nil))) (fun _ _ _ _ _ => pts_nil)
          (fun _ _ _ _ _ => pe_tup (pa_cons (pe_op op_sub (pe_op op_mul (pe_op op_pow pe_int pe_int) (pv 4)) (pe_op op_pow pe_int pe_int)) (pa_cons (pe_op op_sub (pe_op op_mul (pe_op op_pow pe_int pe_int) (pv 5)) (pe_op op_pow pe_int pe_int)) pa_nil)))))) pss_nil)
      (pss_cons (ps_if (pt_cmpR op_eq (pv 2) pe_int (nomark _)) (pss_one (ps_ret (pe_lc (own := [("_law_begin", 4), ("_law_end", 5)]) (tt := tYes) (by rfl) sc_spread.nd (pi_list (pv 1)) (blkOk_by (own := [("_law_begin", 4), ("_law_end", 5)]) (N := ["_law_bag_here", "_law_bows_here", "_law_way", "_law_by", "_law_begin", "_law_end"]) (sc := defScope s_spread) (by decide +kernel))
          (g := gTup K 2 (gCons (gName 4) (gCons (gName 5) gNil))) (fun _ _ _ _ _ => pg_tup rfl (pgs_cons (pg_name (i := 4) sc_spread.nd rfl (Or.inl rfl)) (pgs_cons (pg_name (i := 5) sc_spread.nd rfl (Or.inl rfl)) pgs_nil))) (fun _ _ _ _ _ => pts_nil)
          (fun _ _ _ _ _ => pe_tup (pa_cons (pe_op op_sub (pe_op op_mul (pv 4) (pv 4)) pe_int) (pa_cons (pe_op op_sub (pe_op op_mul (pv 5) (pv 5)) pe_int) pa_nil)))))) pss_nil)
      (pss_cons (ps_if (pt_cmpR op_eq (pv 2) pe_int (nomark _)) (pss_one (ps_ret (pe_lc (own := [("_law_begin", 4), ("_law_end", 5)]) (tt := tYes) (by rfl) sc_spread.nd (pi_list (pv 1)) (blkOk_by (own := [("_law_begin", 4), ("_law_end", 5)]) (N := ["_law_bag_here", "_law_bows_here", "_law_way", "_law_by", "_law_begin", "_law_end"]) (sc := defScope s_spread) (by decide +kernel))
          (g := gTup K 2 (gCons (gName 4) (gCons (gName 5) gNil))) (fun _ _ _ _ _ => pg_tup rfl (pgs_cons (pg_name (i := 4) sc_spread.nd rfl (Or.inl rfl)) (pgs_cons (pg_name (i := 5) sc_spread.nd rfl (Or.inl rfl)) pgs_nil))) (fun _ _ _ _ _ => pts_nil)
          (fun _ _ _ _ _ => pe_tup (pa_cons (pe_op op_add (pv 4) (pe_op op_mul (pe_op op_fdiv (pv 4) pe_int) (pe_op op_pow pe_int pe_int))) (pa_cons (pe_op op_add (pv 5) (pe_op op_mul (pe_op op_fdiv (pv 5) pe_int) (pe_op op_pow pe_int pe_int))) pa_nil)))))) pss_nil)
      (pss_cons (ps_set (i := 3) sc_spread.nd rfl (Or.inr rfl) (pe_ix ix_list (pe_lst (pa_cons pe_int (pa_cons pe_int (pa_cons pe_int pa_nil)))) (pe_op op_sub (pv 2) pe_int) (fun _ _ => rfl)))
      (pss_one (ps_ret (pe_lc (own := [("_law_begin", 4), ("_law_end", 5)]) (tt := tYes) (by rfl) sc_spread.nd (pi_list (pv 1)) (blkOk_by (own := [("_law_begin", 4), ("_law_end", 5)]) (N := ["_law_bag_here", "_law_bows_here", "_law_way", "_law_by", "_law_begin", "_law_end"]) (sc := defScope s_spread) (by decide +kernel))
          (g := gTup K 2 (gCons (gName 4) (gCons (gName 5) gNil))) (fun _ _ _ _ _ => pg_tup rfl (pgs_cons (pg_name (i := 4) sc_spread.nd rfl (Or.inl rfl)) (pgs_cons (pg_name (i := 5) sc_spread.nd rfl (Or.inl rfl)) pgs_nil))) (fun _ _ _ _ _ => pts_nil)
          (fun _ _ _ _ _ => pe_tup (pa_cons (pe_op op_sub (pv 4) (pv 3)) (pa_cons (pe_op op_sub (pv 5) (pv 3)) pa_nil)))))))))), ?_⟩
    refine ⟨_, rfl, b, c, 6, rfl, hB, by decide, by decide, fun H1 d k1 hB1 d0 d1 => ?_⟩
    have hp1 := k1.at (by simpa using npb) hp
    have hd1 : DpAll K (hide [b] H1) us (bowsD bs) := dpAll_up (k1.hide fun a h => h) hd
    have fin : ∀ (f : Bow → Bow) (H2 : Hp), Same H1 H2 → (∀ x ∈ bs, okBow (f x)) → ∀ H' r us', Same H2 H' → H2 r = none → H' r = some (.lst us') → (∀ M, Dom M H2 → DpAll K (hide (r :: M) H') us' (bowsD (bs.map f))) → Q (.ref r) H' := fun f H2 s1 hf H' r us' s2 nr hr' hdat => by
      have s12 := s1.trans s2
      refine q H' r us' (bs.map f) ⟨k1.trans (.of s12), hB1.same s12, k1.free (s1.free nr), hr', fun M dM hb => hdat M ((k1.dom dM).up s1)⟩ (fun x hx => ?_) (List.length_map _)
      obtain ⟨y, hy, rfl⟩ := List.mem_map.mp hx
      exact hf y hy
    refine ⟨_, rfl, rfl, _, rfl, ite2 (fun h => ?_) (fun h0 => ?_)⟩
    · refine spread_lc (K := K) (fun x => (10 ^ 25 * x.1 - 10 ^ 29, 10 ^ 25 * x.2 - 10 ^ 29)) (fun z H2 Q' hz hQ => ?_) hp1 (dpAll_up hide_sub hd1) hl (fin _ H1 (Same.refl _) fun x hx => ?_)
      · obtain ⟨z0, z1, z2⟩ := hs z hz
        refine ⟨10, 25, rfl, rfl, ⟨by decide, by decide, by decide⟩, _, rfl, _, _, rfl, rfl, .inr ⟨by omega, by omega⟩, 10, 29, rfl, rfl, ⟨by decide, by decide, by decide⟩, _, _, rfl, rfl, ?_⟩
        exact ⟨10, 25, rfl, rfl, ⟨by decide, by decide, by decide⟩, _, rfl, _, _, rfl, rfl, .inr ⟨by omega, by omega⟩, 10, 29, rfl, rfl, ⟨by decide, by decide, by decide⟩, _, _, rfl, rfl, by show 2 ≤ sizeLine; decide, hQ⟩
      · obtain ⟨z0, z1, z2⟩ := hs x hx
        refine ⟨?_, ?_, ?_⟩
        · show (10 ^ 25 * x.1 - 10 ^ 29 : Int) < 10 ^ 25 * x.2 - 10 ^ 29
          omega
        · show (-Big : Int) ≤ 10 ^ 25 * x.1 - 10 ^ 29
          unfold Big
          omega
        · show (10 ^ 25 * x.2 - 10 ^ 29 : Int) ≤ Big
          unfold Big
          omega
    refine ⟨_, rfl, rfl, _, rfl, ite2 (fun h => ?_) (fun h1 => ?_)⟩
    · refine spread_lc (K := K) (fun x => (x.1 * x.1 - 50, x.2 * x.2 - 50)) (fun z H2 Q' hz hQ => ?_) hp1 (dpAll_up hide_sub hd1) hl (fin _ H1 (Same.refl _) fun x hx => ?_)
      · obtain ⟨z0, z1, z2⟩ := hs z hz
        exact ⟨_, rfl, _, rfl, _, _, rfl, rfl, .inr ⟨by omega, by omega⟩, _, _, rfl, rfl, _, rfl, _, rfl, _, _, rfl, rfl, .inr ⟨by omega, by omega⟩, _, _, rfl, rfl, by show 2 ≤ sizeLine; decide, hQ⟩
      · obtain ⟨z0, z1, z2⟩ := hs x hx
        have g1 : x.1 * x.1 < x.2 * x.2 := sq_lt z0 z1
        have g2 : 0 ≤ x.1 * x.1 := Int.mul_nonneg z0 z0
        have g3 : x.2 * x.2 < 20 * 20 := sq_lt (by omega) z2
        refine ⟨?_, ?_, ?_⟩
        · show x.1 * x.1 - 50 < x.2 * x.2 - 50
          omega
        · show (-Big : Int) ≤ x.1 * x.1 - 50
          unfold Big
          omega
        · show x.2 * x.2 - 50 ≤ Big
          unfold Big
          omega
    refine ⟨_, rfl, rfl, _, rfl, ite2 (fun h => ?_) (fun h2 => ?_)⟩
    · refine spread_lc (K := K) (fun x => (x.1 + x.1 / 3 * 10 ^ 28, x.2 + x.2 / 3 * 10 ^ 28)) (fun z H2 Q' hz hQ => ?_) hp1 (dpAll_up hide_sub hd1) hl (fin _ H1 (Same.refl _) fun x hx => ?_)
      · obtain ⟨z0, z1, z2⟩ := hs z hz
        refine ⟨_, rfl, _, rfl, _, _, rfl, rfl, ⟨by decide, by decide⟩, 10, 28, rfl, rfl, ⟨by decide, by decide, by decide⟩, _, _, rfl, rfl, .inl ⟨by omega, by omega⟩, _, _, rfl, rfl, ?_⟩
        exact ⟨_, rfl, _, rfl, _, _, rfl, rfl, ⟨by decide, by decide⟩, 10, 28, rfl, rfl, ⟨by decide, by decide, by decide⟩, _, _, rfl, rfl, .inl ⟨by omega, by omega⟩, _, _, rfl, rfl, by show 2 ≤ sizeLine; decide, hQ⟩
      · obtain ⟨z0, z1, z2⟩ := hs x hx
        refine ⟨?_, ?_, ?_⟩
        · show (x.1 + x.1 / 3 * 10 ^ 28 : Int) < x.2 + x.2 / 3 * 10 ^ 28
          omega
        · show (-Big : Int) ≤ x.1 + x.1 / 3 * 10 ^ 28
          unfold Big
          omega
        · show (x.2 + x.2 / 3 * 10 ^ 28 : Int) ≤ Big
          unfold Big
          omega
    have d0' : d ≠ 0 := fun e => h0 (by rw [e]; exact decide_eq_true rfl)
    have d1' : d ≠ 1 := fun e => h1 (by rw [e]; exact decide_eq_true rfl)
    have d2' : d ≠ 2 := fun e => h2 (by rw [e]; exact decide_eq_true rfl)
    refine ⟨by show 3 ≤ sizeLine; decide, fun l nl => ?_⟩
    have s1 : Same H1 (upd H1 l (.lst [.int 0, .int 6, .int 9])) := same_upd (Same.refl H1) nl
    have by_ : ∃ k : Int, atI [V.int 0, .int 6, .int 9] (d - 3) = some (.int k) ∧ 0 ≤ k ∧ k ≤ 9 := by
      obtain rfl | rfl | rfl : d = 3 ∨ d = 4 ∨ d = 5 := by omega
      · exact ⟨0, atI_nat (j := 0) rfl, by decide, by decide⟩
      · exact ⟨6, atI_nat (j := 1) rfl, by decide, by decide⟩
      · exact ⟨9, atI_nat (j := 2) rfl, by decide, by decide⟩
    obtain ⟨k, hk, k0, k9⟩ := by_
    refine ⟨_, rfl, _, _, rfl, rfl, l, _, _, _, rfl, rfl, SqL.of upd_same, hk, ?_⟩
    refine spread_lc (K := K) (fun x => (x.1 - k, x.2 - k)) (fun z H2 Q' hz hQ => ?_) (s1 _ _ hp1) (dpAll_up s1 (dpAll_up hide_sub hd1)) hl (fin _ _ s1 fun x hx => ?_)
    · exact ⟨_, rfl, _, rfl, _, _, rfl, rfl, _, rfl, _, rfl, _, _, rfl, rfl, by show 2 ≤ sizeLine; decide, hQ⟩
    · obtain ⟨z0, z1, z2⟩ := hs x hx
      refine ⟨?_, ?_, ?_⟩
      · show x.1 - k < x.2 - k
        omega
      · show (-Big : Int) ≤ x.1 - k
        unfold Big
        omega
      · show x.2 - k ≤ Big
        unfold Big
        omega

theorem sc_drawnBows : FnScope ["_law_bag_here", "_law_most"] ["_law_bag_here", "_law_most"] (defScope s_drawnBows) := ⟨rfl, rfl, rfl, by decide +kernel, rfl, by decide +kernel, by decide +kernel⟩
theorem ok_drawnBows : FnOk P w K mg base CX0 4 T.drawnBows.f T.drawnBows.fd ["_law_bag_here", "_law_most"] (spDrawnBows K) := by
  refine T.drawnBows.F.ok sc_drawnBows (fun vs H Q E h => ?_) (fun cdv A outer s H vs Q E hr h => ?_)
  · obtain ⟨b, c, m, rfl, _⟩ := h
    rfl
  · obtain ⟨b, c, m, rfl, hB, m0, m1, q⟩ := h
    have gT : FnOk P w K mg base CX0 1 T.take.f T.take.fd ["_law_bag_here", "_law_many"] spTake := ok_take T
    have gB : FnOk P w K mg base CX0 3 T.bows.f T.bows.fd ["_law_bag_here", "_law_many", "_law_places"] (spBows K) := ok_bows T
    have gS : FnOk P w K mg base CX0 2 T.spread.f T.spread.fd ["_law_bag_here", "_law_bows_here"] (spSpread K) := ok_spread T
    have hr1 : Room 1 _ := hr.mono (by decide)
    have hr2 : Room 2 _ := hr.mono (by decide)
    refine ⟨_, pss_one (ps_ret (pe_call gS hr2 (by rfl) T.spread.mg T.spread.F.kp T.spread.b .nil pass0 (pa_cons (pv 0) (pa_cons
      (pe_call gB hr (by rfl) T.bows.mg T.bows.F.kp T.bows.b .nil pass0 (pa_cons (pv 0) (pa_cons (pe_call gT hr1 (by rfl) T.take.mg T.take.F.kp T.take.b .nil pass0 (pa_cons (pv 0) (pa_cons (pe_op op_add (pv 1) pe_int) pa_nil)))
        (pa_cons (pe_op op_add pe_int (pe_call gT hr1 (by rfl) T.take.mg T.take.F.kp T.take.b .nil pass0 (pa_cons (pv 0) (pa_cons pe_int pa_nil)))) pa_nil)))) pa_nil)))), ?_⟩
    refine ⟨_, rfl, _, rfl, _, rfl, _, rfl, _, _, rfl, rfl, b, c, m + 1, rfl, hB, by omega, by omega, fun H1 d k1 hB1 d0 d1 => ?_⟩
    refine ⟨_, rfl, b, c, 12, rfl, hB1, by decide, by decide, fun H2 e k2 hB2 e0 e1 => ⟨_, _, rfl, rfl, ?_⟩⟩
    refine ⟨b, c, d, 2 + e, rfl, hB2, d0, by omega, by omega, by omega, fun H3 p us bs k3 hB3 np hp hdat hs hl => ?_⟩
    have npb := (hB2.ne np).1
    refine ⟨b, c, p, us, bs, rfl, hB3, npb, hp, dpAll_up (hide_more (by simp)) (hdat [b] (.cons hB2.live.1.choose_spec .nil) (by simp)), fun x hx => ⟨(hs x hx).1, (hs x hx).2.1, by have := (hs x hx).2.2; omega⟩, by omega, fun H' r us' bs' D hok hl' => ?_⟩
    obtain ⟨k4, hB4, nr, hr', hdat'⟩ := D
    have k13 := (k1.trans k2).trans k3
    exact q H' r us' bs' ⟨k13.trans k4, hB4, k13.free nr, hr', fun M dM hb => hdat' M (k13.dom dM) hb⟩ hok (by omega)
end
end Bk

/-! The walks: edits drawn. -/
namespace Bk
open PySem L2 L2.BK

section
variable {P : Program} {w : World} {K : PySem.W.Frag} {mg : Str → Option Value} {base : Heap} (T : Txt P w K mg)
def drawnE (e : Ed) : Prop := okEd e ∧ (∀ b, e ≠ .put b) ∧ e ≠ .row [(0, 77)]
def spEdits (K : PySem.W.Frag) : Sp := fun vs H Q _ => ∃ b c, vs = [.ref b] ∧ BagAt H b c ∧
  ∀ H' q us (es : List Ed), Drawn K H b c H' q us (es.map edD) → (∀ e ∈ es, drawnE e) → 1 ≤ es.length → es.length ≤ 8 → Q (.ref q) H'
theorem Kp.fresh {F : List Addr} {H H' : Hp} {l : Addr} {o : HO} (k : Kp F H H') (n : H l = none) : Kp F H (L2.upd H' l o) :=
  ⟨fun a u m e => by rw [upd_ne (ne_of_none e n)]; exact k.at m e, fun a u e => by rw [upd_ne (ne_of_none e n)]; exact k.live a u e⟩
theorem mem_ways {v : V} (h : v ∈ WAYSL.map V.str) : ∃ x ∈ WAYSL, v = .str x := by
  obtain ⟨x, h1, rfl⟩ := List.mem_map.mp h
  exact ⟨x, h1, rfl⟩
theorem drawn_row {bs : List Bow} (h : ∀ x ∈ bs, small 9 x) (hl : bs.length ≤ 3) : drawnE (.row bs) := by
  refine ⟨⟨fun x hx => ?_, hl⟩, (fun b z => by cases z), fun z => ?_⟩
  · obtain ⟨h0, h1, h2⟩ := h x hx
    refine ⟨h1, ?_, ?_⟩
    · unfold Big; omega
    · unfold Big; omega
  · injection z with z
    have := (h (0, 77) (by rw [z]; exact List.mem_cons_self)).2.2
    exact absurd this (by decide)

theorem sc_edits : FnScope ["_law_bag_here", "_law_found", "_law_k", "_law_some"] ["_law_bag_here"] (defScope s_edits) := ⟨rfl, rfl, rfl, by decide +kernel, rfl, by decide +kernel, by decide +kernel⟩
theorem ok_edits : FnOk P w K mg base CX0 4 T.edits.f T.edits.fd ["_law_bag_here"] (spEdits K) := by
  refine T.edits.F.ok sc_edits (fun vs H Q E h => ?_) (fun cdv A outer s H vs Q E hr h => ?_)
  · obtain ⟨b, c, rfl, _⟩ := h
    rfl
  · obtain ⟨b, c, rfl, hB, q⟩ := h
    have gT : FnOk P w K mg base CX0 1 T.take.f T.take.fd ["_law_bag_here", "_law_many"] spTake := ok_take T
    have gO : FnOk P w K mg base CX0 2 T.one.f T.one.fd ["_law_bag_here", "_law_things"] spOne := ok_one T
    have gA : FnOk P w K mg base CX0 1 T.allWays.f T.allWays.fd [] spAllWays := ok_allWays T
    have gB : FnOk P w K mg base CX0 3 T.bows.f T.bows.fd ["_law_bag_here", "_law_many", "_law_places"] (spBows K) := ok_bows T
    have hr1 : Room 1 _ := hr.mono (by decide)
    have hr2 : Room 2 _ := hr.mono (by decide)
    refine ⟨_, pss_cons (ps_set (i := 1) sc_edits.nd rfl (Or.inl rfl) (pe_lst pa_nil))
      (pss_cons (ps_for PassesOwn.never rfl (pi_range1 (by rfl) T.n_range (pa_cons (pe_op op_add pe_int (pe_call gT hr1 (by rfl) T.take.mg T.take.F.kp T.take.b .nil pass0 (pa_cons (pv 0) (pa_cons pe_int pa_nil)))) pa_nil)) (pg_name (i := 2) sc_edits.nd rfl (Or.inl rfl))
        (pss_cons (ps_set (i := 3) sc_edits.nd rfl (Or.inl rfl) (pe_lst (pa_cons (pe_tup (pa_cons pe_str pa_nil)) (pa_cons (pe_tup (pa_cons pe_str (pa_cons (pe_call gO hr2 (by rfl) T.one.mg T.one.F.kp T.one.b .nil pass0 (pa_cons (pv 0) (pa_cons (pe_call0 gA hr1 (by rfl) T.allWays.mg T.allWays.F.kp T.allWays.b .nil pass0) pa_nil))) pa_nil)))
            (pa_cons (pe_tup (pa_cons pe_str (pa_cons (pe_call gO hr2 (by rfl) T.one.mg T.one.F.kp T.one.b .nil pass0 (pa_cons (pv 0) (pa_cons (pe_call0 gA hr1 (by rfl) T.allWays.mg T.allWays.F.kp T.allWays.b .nil pass0) pa_nil))) pa_nil))) pa_nil)))))
        (pss_cons (ps_expr (pe_bm PySem.F.plainAttrs_list PySem.F.slot_list_append PySem.F.type_list_append mt_append (pv 3)
            (pa_cons (pe_tup (pa_cons pe_str (pa_cons (pe_callTy call_tuple_of (by rfl) T.n_tuple (by decide +kernel) (pa_cons (pe_call gB hr (by rfl) T.bows.mg T.bows.F.kp T.bows.b .nil pass0 (pa_cons (pv 0) (pa_cons (pe_call gT hr1 (by rfl) T.take.mg T.take.F.kp T.take.b .nil pass0 (pa_cons (pv 0) (pa_cons pe_int pa_nil))) (pa_cons pe_int pa_nil)))) pa_nil)) pa_nil))) pa_nil)))
        (pss_one (ps_expr (pe_bm PySem.F.plainAttrs_list PySem.F.slot_list_append PySem.F.type_list_append mt_append (pv 1)
            (pa_cons (pe_call gO hr2 (by rfl) T.one.mg T.one.F.kp T.one.b .nil pass0 (pa_cons (pv 0) (pa_cons (pv 3) pa_nil))) pa_nil)))))))
      (pss_one (ps_ret (pv 1)))), ?_⟩
    refine ⟨Nat.zero_le _, fun p np => ?_⟩
    have pn := hB.ne np
    have hB0 : BagAt (upd H p (.lst [])) b c := hB.out pn
    refine ⟨_, rfl, b, c, 8, rfl, hB0, by decide, by decide, fun H1 d k1 hB1 d0 d1 => ?_⟩
    have A0 : Acc K [b] H p H1 [] [] := ⟨(Kp.refl.upd (.inr np)).trans k1, np, k1.at (by simpa using pn.1) upd_same, fun _ _ _ => .nil⟩
    refine ⟨_, _, rfl, rfl, _, rfl, by omega, by omega, ?_⟩
    refine for_range (lo := 0) (n := (1 + d).toNat) (fun i σ H' => (∃ x y, σ = [some (.ref b), some (.ref p), x, y]) ∧ BagAt H' b c ∧ ∃ acc es, Acc K [b] H p H' acc (es.map edD) ∧ (∀ e ∈ es, drawnE e) ∧ es.length = i) ⟨⟨_, _, rfl⟩, hB1, [], [], A0, by simp, rfl⟩ (fun i σ H' hi z => ?_) (fun σ H' z => ?_)
    · obtain ⟨⟨x, y, rfl⟩, hB', acc, es, A, hs, hl⟩ := z
      refine ⟨by show 1 ≤ sizeLine; decide, fun t1 n1 => ?_⟩
      have kA : Kp [b] H' (upd H' t1 (.tup [.str "turn"])) := Kp.refl.upd (.inr n1)
      have hA : upd H' t1 (.tup [.str "turn"]) t1 = some (.tup [.str "turn"]) := upd_same
      have BA := hB'.out (o := .tup [.str "turn"]) (hB'.ne n1)
      have n1b := (hB'.ne n1).1
      generalize upd H' t1 (.tup [.str "turn"]) = HA at kA hA BA
      -- let
      refine ⟨_, rfl, rfl, fun w1 nw1 => ?_⟩
      refine ⟨b, c, w1, _, rfl, BA.out (BA.ne nw1), upd_same, (BA.ne nw1).1, by show 1 ≤ 7; decide, by show 7 < 1000; decide, fun HB v kB BB hv => ?_⟩
      obtain ⟨x1, hx1, rfl⟩ := mem_ways hv
      refine ⟨by show 2 ≤ sizeLine; decide, fun t2 n2 => ?_⟩
      have kB : Kp [b] HA HB := (Kp.refl.upd (.inr nw1)).trans kB
      have kC : Kp [b] HA (upd HB t2 (.tup [.str "let", .str x1])) := kB.upd (.inr n2)
      have hC : upd HB t2 (.tup [.str "let", .str x1]) t2 = some (.tup [.str "let", .str x1]) := upd_same
      have BC := BB.out (o := .tup [.str "let", .str x1]) (BB.ne n2)
      have n2b := (BB.ne n2).1
      have n2' := kA.free (kB.free n2)
      generalize upd HB t2 (.tup [.str "let", .str x1]) = HC at kC hC BC
      -- bar
      refine ⟨_, rfl, rfl, fun w2 nw2 => ?_⟩
      refine ⟨b, c, w2, _, rfl, BC.out (BC.ne nw2), upd_same, (BC.ne nw2).1, by show 1 ≤ 7; decide, by show 7 < 1000; decide, fun HD v kD BD hv => ?_⟩
      obtain ⟨x2, hx2, rfl⟩ := mem_ways hv
      refine ⟨by show 2 ≤ sizeLine; decide, fun t3 n3 => ?_⟩
      have kD : Kp [b] HC HD := (Kp.refl.upd (.inr nw2)).trans kD
      have kE : Kp [b] HC (upd HD t3 (.tup [.str "bar", .str x2])) := kD.upd (.inr n3)
      have hE : upd HD t3 (.tup [.str "bar", .str x2]) t3 = some (.tup [.str "bar", .str x2]) := upd_same
      have BE := BD.out (o := .tup [.str "bar", .str x2]) (BD.ne n3)
      have n3b := (BD.ne n3).1
      have n3' := kA.free (kC.free (kD.free n3))
      generalize upd HD t3 (.tup [.str "bar", .str x2]) = HE at kE hE BE
      refine ⟨by show 3 ≤ sizeLine; decide, fun l nl => ?_⟩
      have nlb := BE.ne nl
      have kAE : Kp [b] H' HE := kA.trans (kC.trans kE)
      have nl' := kAE.free nl
      have h1E : HE t1 = some (.tup [.str "turn"]) := (kC.trans kE).at (by simpa using n1b) hA
      have h2E : HE t2 = some (.tup [.str "let", .str x1]) := kE.at (by simpa using n2b) hC
      have kF : Kp [b] HE (upd HE l (.lst [.ref t1, .ref t2, .ref t3])) := Kp.refl.upd (.inr nl)
      have hF : upd HE l (.lst [.ref t1, .ref t2, .ref t3]) l = some (.lst [.ref t1, .ref t2, .ref t3]) := upd_same
      have BF := BE.out (o := .lst [.ref t1, .ref t2, .ref t3]) nlb
      have h1F := kF.at (by simpa using n1b) h1E
      have h2F := kF.at (by simpa using n2b) h2E
      have h3F := kF.at (by simpa using n3b) hE
      generalize upd HE l (.lst [.ref t1, .ref t2, .ref t3]) = HF at kF hF BF h1F h2F h3F
      have kAF := kAE.trans kF
      -- row
      refine ⟨_, rfl, .inl ⟨rfl, _, SqL.of hF⟩, _, rfl, _, rfl, b, c, 4, rfl, BF, by decide, by decide, fun HG m kG BG m0 m1 => ?_⟩
      refine ⟨b, c, m, 9, rfl, BG, m0, by omega, by decide, by decide, fun HH r us bs kH BH nr hr' hdat hsm hbl => ?_⟩
      refine ⟨r, us, rfl, .inl ⟨SqL.of hr', fun t4 n4 => ⟨by show 2 ≤ sizeLine; decide, fun t5 n5 => ?_⟩⟩⟩
      have kI : Kp [b] HH (upd (upd HH t4 (.tup us)) t5 (.tup [.str "row", .ref t4])) := (Kp.refl.upd (.inr n4)).upd (.inr n5)
      have BI : BagAt (upd (upd HH t4 (.tup us)) t5 (.tup [.str "row", .ref t4])) b c := (BH.out (BH.ne n4)).out ((BH.out (BH.ne n4)).ne n5)
      have h45 : t4 ≠ t5 := ne_of_none upd_same n5
      have h4I : upd (upd HH t4 (.tup us)) t5 (.tup [.str "row", .ref t4]) t4 = some (.tup us) := by rw [upd_ne h45, upd_same]
      have h5I : upd (upd HH t4 (.tup us)) t5 (.tup [.str "row", .ref t4]) t5 = some (.tup [.str "row", .ref t4]) := upd_same
      have n4b := (BH.ne n4).1
      have n5b := ((BH.out (o := .tup us) (BH.ne n4)).ne n5).1
      have n5H := (upd_none n5).2
      generalize upd (upd HH t4 (.tup us)) t5 (.tup [.str "row", .ref t4]) = HI at kI BI h4I h5I
      have kFI := kG.trans (kH.trans kI)
      have lI := kFI.at (by simpa using nlb.1) hF
      have n4G : HG t4 = none := kH.free n4
      have n5G : HG t5 = none := kH.free n5H
      have n4' := kAF.free (kG.free n4G)
      have n5' := kAF.free (kG.free n5G)
      refine ⟨l, _, _, rfl, rfl, lI, by show 3 < sizeLine; decide, ?_⟩
      have kJ : Kp [b] H' (upd HI l (.lst ([.ref t1, .ref t2, .ref t3] ++ [.ref t5]))) := (kAF.trans kFI).fresh nl'
      have kIJ : Kp [l, b] HI (upd HI l (.lst ([.ref t1, .ref t2, .ref t3] ++ [.ref t5]))) := Kp.refl.upd (.inl (by simp))
      have BJ : BagAt (upd HI l (.lst ([.ref t1, .ref t2, .ref t3] ++ [.ref t5]))) b c := BI.out nlb
      have hJ : upd HI l (.lst ([.ref t1, .ref t2, .ref t3] ++ [.ref t5])) l = some (.lst ([.ref t1, .ref t2, .ref t3] ++ [.ref t5])) := upd_same
      generalize upd HI l (.lst ([.ref t1, .ref t2, .ref t3] ++ [.ref t5])) = HJ at kJ kIJ BJ hJ
      have pA := kJ.at (by simpa using pn.1) A.at_
      refine ⟨_, rfl, .inl ⟨rfl, _, SqL.of pA⟩, _, rfl, _, rfl, b, c, l, _, rfl, BJ, hJ, nlb.1, by show 1 ≤ 4; decide, by show 4 < 1000; decide, fun HK v kK BK hv => ?_⟩
      have kAK : Kp [b] H' HK := kJ.trans kK
      have pK := kK.at (by simpa using pn.1) pA
      have hAl := dpAll_len (A.dat [b] (.cons hB.live.1.choose_spec .nil) (by simp))
      have e2 : (es.map edD).length = es.length := List.length_map _
      rw [e2, hl] at hAl
      refine ⟨p, acc, _, rfl, rfl, pK, by rw [hAl, PySem.sizeLine_eq]; omega, ⟨_, _, rfl⟩, BK.out pn, ?_⟩
      -- what stands at the end
      have kFK : Kp [l, b] HF HK := (kFI.mono (by simp)).trans (kIJ.trans (kK.mono (by simp)))
      have go : ∀ e v, drawnE e → (∀ M, Dom M H → (∀ a ∈ [b], a ∈ M) → Dp K (hide (p :: M) HK) v (edD e)) → ∃ (acc' : List V) (es' : List Ed), Acc K [b] H p (upd HK p (.lst (acc ++ [v]))) acc' (es'.map edD) ∧ (∀ e ∈ es', drawnE e) ∧ es'.length = i + 1 := fun e v he hd => by
        refine ⟨acc ++ [v], es ++ [e], ?_, fun x hx => ?_, by rw [List.length_append, hl]; rfl⟩
        · rw [List.map_append]
          exact A.push kAK hd
        · rcases List.mem_append.mp hx with h | h
          · exact hs x h
          · rw [List.mem_singleton.mp h]
            exact he
      have at_ : ∀ {t o M}, Dom M H → H' t = none → HK t = some o → hide (p :: M) HK t = some o := fun dM nt ht => hide_get (hide_new (A.dom dM) nt) ht
      have hv' : v = .ref t1 ∨ v = .ref t2 ∨ v = .ref t3 ∨ v = .ref t5 := by simpa using hv
      have lt : ∀ {t o}, H' t = none → HF t = some o → t ≠ b → (t = l → o = .lst [.ref t1, .ref t2, .ref t3]) := fun nt ht _ e => by
        subst e
        rw [hF] at ht
        exact (Option.some.inj ht).symm
      have stay : ∀ {t xs}, HF t = some (.tup xs) → t ≠ b → HK t = some (.tup xs) := fun {t xs} ht nb => kFK.at (by
        intro z
        rcases List.mem_cons.mp z with z | z
        · rw [z, hF] at ht
          cases ht
        · exact nb (List.mem_singleton.mp z)) ht
      rcases hv' with rfl | rfl | rfl | rfl
      · refine go .turn _ ⟨trivial, (fun b z => by cases z), fun z => by cases z⟩ fun M dM hb => ?_
        exact .tup (SqT.of (at_ dM n1 (stay h1F n1b))) (.cons (.str _) .nil)
      · refine go (.let_ x1) _ ⟨hx1, (fun b z => by cases z), fun z => by cases z⟩ fun M dM hb => ?_
        exact .tup (SqT.of (at_ dM n2' (stay h2F n2b))) (.cons (.str _) (.cons (.str _) .nil))
      · refine go (.bar x2) _ ⟨hx2, (fun b z => by cases z), fun z => by cases z⟩ fun M dM hb => ?_
        exact .tup (SqT.of (at_ dM n3' (stay h3F n3b))) (.cons (.str _) (.cons (.str _) .nil))
      · refine go (.row bs) _ (drawn_row hsm (by omega)) fun M dM hb => ?_
        have kIK : Kp [l, b] HI HK := kIJ.trans (kK.mono (by simp))
        have lG : HG l = some (.lst [.ref t1, .ref t2, .ref t3]) := kG.at (by simpa using nlb.1) hF
        have st : ∀ {t xs}, HI t = some (.tup xs) → t ≠ b → HK t = some (.tup xs) := fun {t xs} ht nb => kIK.at (by
          intro z
          rcases List.mem_cons.mp z with z | z
          · rw [z, lI] at ht
            cases ht
          · exact nb (List.mem_singleton.mp z)) ht
        have dG : Dom (l :: p :: M) HG := .cons lG ((kAF.trans kG).dom (A.dom dM))
        have z := hdat (l :: p :: M) dG (by simp [hb])
        have z1 : DpAll K (hide (l :: p :: M) HH) us (bowsD bs) := dpAll_up (hide_more fun a h => List.mem_cons_of_mem _ h) z
        have z2 : DpAll K (hide (l :: p :: M) HK) us (bowsD bs) := dpAll_up (((kI.mono (by simp)).trans kIK).hide fun a h => by
          rcases List.mem_cons.mp h with h | h
          · rw [h]; simp
          · rw [List.mem_singleton.mp h]; simp [hb]) z1
        have z3 : DpAll K (hide (p :: M) HK) us (bowsD bs) := dpAll_up (hide_more fun a h => List.mem_cons_of_mem _ h) z2
        exact .tup (SqT.of (at_ dM n5' (st h5I n5b))) (.cons (.str _) (.cons (.tup (SqT.of (at_ dM n4' (st h4I n4b))) z3) .nil))
    · obtain ⟨⟨x, y, rfl⟩, hB', acc, es, A, hs, hl⟩ := z
      exact ⟨_, rfl, q H' p acc es ⟨A.kp, hB', np, A.at_, fun M dM hb => A.dat M dM fun a h => by rw [List.mem_singleton.mp h]; exact hb⟩ hs (by omega) (by omega)⟩
end
end Bk

/-! Rules: len by an own __len__; a method that may raise, in a try. -/
namespace L2.BK
open PySem PySem.Spec PyProof.Rows

section
variable {X : Cx} {CX : CXT} {k : Nat} {C f : Addr} {fd : FuncData} {ps : List Str} {sp : Sp}
def rLenOwn (C : Addr) (sp : Sp) (E : XK) : List V → Hp → VK → Prop := fun xs H Q => ∃ a dx fs, xs = [.ref a] ∧ H a = some (.ins C dx fs) ∧ sp [.ref a] H (fun v H' => ∃ n : Int, v = .int n ∧ 0 ≤ n ∧ n < 2 ^ 63 ∧ Q (.int n) H') E
theorem call_lenOwn {E : XK} (F : FnOk X.prog X.w X.K X.mg X.base CX k f fd ps sp) (hr : Room (k + 1) X.A) (hb : Binds X.K fd ps []) (hx : Passes CX X E) (hm : Meth X.K C "__len__" f) : CallR X (.builtin "len") (rLenOwn C sp E) := by
  intro pins s σ H xs us Q I r h
  obtain ⟨a, dx, fs, rfl, ha, q⟩ := h
  obtain ⟨u, rfl, ru⟩ := vals1 r
  cases ru
  obtain ⟨mA, J, _⟩ := ins_get I.hok ha
  obtain ⟨od, J, _⟩ := J.look
  obtain ⟨m', hF⟩ := I.fr
  refine PySem.W.len_K hF I.ok.mod.kin J hm.at_ hm.fn ?_
  refine thn (run_at (vs := [V.ref a]) ⟨hr.in1, rfl⟩ F hb hx I (.cons rfl .nil) q) fun w s' z => ?_
  obtain ⟨v, H', I', rz, n, ez, n0, n1, q'⟩ := z
  subst ez
  obtain ⟨t, rfl⟩ := rz
  exact ⟨⟨n0, n1⟩, .int n, H', I'.tok _, ⟨_, rfl⟩, q'⟩
/-- o.m(), where it may raise: what it lets out may speak of the slots -/
def tMeth0S (C : Addr) (m : Str) (sp : Sp) (E : St → XK) (ta : TE) : TE := fun σ H Q => ta σ H fun x H1 => ∃ a dx fs, x = .ref a ∧ H1 a = some (.ins C dx fs) ∧ fs.lookup m = none ∧ sp [x] H1 Q (E σ)
theorem pe_meth0S {E : St → XK} {o : Expr} {m : Str} {apos pos : Pos} {ta : TE} {pl : Sem Bool} (he : PE X o ta) (c : Cls X.K C) (hm : Meth X.K C m f) (F : FnOk X.prog X.w X.K X.mg X.base CX k f fd ps sp) (hr : Room k X.A) (hb : Binds X.K fd ps []) (hx : ∀ σ, PassesAt CX X σ (E σ))
    (ht : eval (.Call (.Attribute o m apos) [] [] pos) X.env = (do
      let ov ← eval o X.env
      standAt apos.atName
      let (f, first) ← holding [ov] (getMethod ov m pl)
      callWith pos f first (backTo pos (starEach [] X.env)) (backToKw pos (keywordEach [] X.env))) := by rfl) :
    PE X (.Call (.Attribute o m apos) [] [] pos) (tMeth0S C m sp E ta) := by
  refine ⟨fun pins s σ H Q I h => ?_⟩
  refine PySem.W.methodCall_KW (pl := pl) (thn (he.run pins s σ H _ I h) fun u s1 ⟨x, H1, I1, rx, a, dx, fs, ex, ea, l, q⟩ => ?_) ht
  subst ex
  obtain rfl : u = Value.ref a := rx
  refine getmeth_ok I1 ea c hm l ?_
  exact PySem.W.callWith_K0 (first := [.ref a]) I1.kIn hm.kp (run_fnS (us := [.ref a]) (vs := [.ref a]) F hr hb (hx σ) I1 (.cons rfl .nil) q)
end
end L2.BK

/-! The walks: a book's face, turned, done. -/
namespace Bk
open PySem L2 L2.BK

/-! ### the states along the edits -/
def fin (s : Stt) (es : List Ed) : Stt := es.foldl (fun s e => step e s) s
def trail (s : Stt) (es : List Ed) : List Stt := (List.range (es.length + 1)).map fun k => fin s (es.take k)
theorem fin_snoc (s : Stt) (es : List Ed) (e : Ed) : fin s (es ++ [e]) = step e (fin s es) := by
  unfold fin
  rw [List.foldl_append]
  rfl
theorem trail_snoc (s : Stt) (es : List Ed) (e : Ed) : trail s (es ++ [e]) = trail s es ++ [step e (fin s es)] := by
  unfold trail
  rw [List.length_append, List.length_singleton, List.range_succ, List.map_append]
  congr 1
  · refine List.map_congr_left fun k hk => ?_
    have hk := List.mem_range.mp hk
    rw [List.take_append_of_le_length (by omega)]
  · simp only [List.map_cons, List.map_nil]
    rw [← fin_snoc, List.take_of_length_le (by rw [List.length_append]; exact Nat.le_refl _)]
theorem trail_last (s : Stt) (es : List Ed) : trail s es = ((List.range es.length).map fun k => fin s (es.take k)) ++ [fin s es] := by
  unfold trail
  rw [List.range_succ, List.map_append]
  congr 1
  simp only [List.map_cons, List.map_nil]
  rw [List.take_length]
theorem trail_head (s : Stt) (es : List Ed) : ∃ r, trail s es = s :: r := by
  unfold trail
  rw [List.range_succ_eq_map, List.map_cons]
  exact ⟨_, rfl⟩
theorem trail_len (s : Stt) (es : List Ed) : (trail s es).length = es.length + 1 := by
  unfold trail
  rw [List.length_map, List.length_range]
theorem canon_canon (p : Str → Bool) : canon p = canon fun x => (canon p).contains x := canon_self p
theorem okSt_step {n : Nat} {s : Stt} {e : Ed} (h : okSt n s) (oe : okEd e) (h3 : 3 ≤ n) : okSt (n + 1) (step e s) := by
  obtain ⟨h1, h2, hc⟩ := h
  cases e with
  | turn =>
    refine ⟨fun b hb => ?_, by show (s.1.map _).length ≤ _; rw [List.length_map]; omega, canon_self (fun x => s.2.contains (exch x))⟩
    obtain ⟨y, hy, rfl⟩ := List.mem_map.mp hb
    exact okBow_tb (h1 y hy)
  | let_ x => exact ⟨h1, Nat.le_succ_of_le h2, canon_self (fun y => s.2.contains y || decide (y = x))⟩
  | bar x => exact ⟨h1, Nat.le_succ_of_le h2, canon_self (fun y => s.2.contains y && !decide (y = x))⟩
  | row bs => exact ⟨oe.1, Nat.le_trans oe.2 (by omega), hc⟩
  | put b =>
    refine ⟨fun x hx => ?_, by show (s.1 ++ [b]).length ≤ _; rw [List.length_append]; exact Nat.succ_le_succ h2, hc⟩
    rcases List.mem_append.mp hx with z | z
    · exact h1 x z
    · rw [List.mem_singleton.mp z]; exact oe
theorem okSt_mono {n m : Nat} {s : Stt} (h : okSt n s) (k : n ≤ m) : okSt m s := ⟨h.1, Nat.le_trans h.2.1 k, h.2.2⟩
theorem okSt_fin {n : Nat} {s : Stt} (hs : okSt n s) (h3 : 3 ≤ n) : ∀ (es : List Ed), okEds es → okSt (n + es.length) (fin s es) := fun es => by
  induction es generalizing s n with
  | nil => exact fun _ => hs
  | cons e es ih =>
    intro h
    have z := ih (okSt_step hs (h e List.mem_cons_self) h3) (by omega) fun x hx => h x (List.mem_cons_of_mem _ hx)
    rw [List.length_cons, show n + (es.length + 1) = n + 1 + es.length by omega]
    exact z

section
variable {P : Program} {w : World} {K : PySem.W.Frag} {mg : Str → Option Value} {base : Heap} (T : Txt P w K mg)
/-! ### promises -/
def spFace : Sp := fun vs H Q _ => ∃ M b sts s eds und, vs = [.ref b.p] ∧ Dom M H ∧ BookAt T M H b (sts ++ [s]) eds und ∧ eds.length < 1000 ∧
  ∀ H' p, Same H H' → H p = none → Dp K (hide M H') (.ref p) (faceD s eds) → Q (.ref p) H'
def spTurned : Sp := fun vs H Q _ => ∃ M b sts eds und k, vs = [.ref b.p, .int k] ∧ Dom M H ∧ BookAt T M H b sts eds und ∧
  ((k = 0 ∧ ((eds = [] ∧ ∀ H', Same H H' → Q (.str "nothing") H') ∨
    ∃ eds' e sts' s, eds = eds' ++ [e] ∧ sts = sts' ++ [s] ∧ und.length ≤ 900 ∧ ∀ H' v, Kp [b.ls, b.le, b.lu] H H' → Dp K (hide M H') v (edD e) → BookAt T M H' b sts' eds' (und ++ [(e, s)]) → Q v H')) ∨
   (k = 1 ∧ ((und = [] ∧ ∀ H', Same H H' → Q (.str "nothing") H') ∨
    ∃ und' e s, und = und' ++ [(e, s)] ∧ sts.length ≤ 900 ∧ eds.length ≤ 900 ∧ ∀ H' v, Kp [b.ls, b.le, b.lu] H H' → Dp K (hide M H') v (edD e) → BookAt T M H' b (sts ++ [s]) (eds ++ [e]) und' → Q v H')))
def spDone : Sp := fun vs H Q _ => ∃ (M : List Addr) (pb : Addr) (us : List V) (bs : List Bow) (pw : Addr) (ws : List Str) (pe : Addr) (vs' : List V) (es : List Ed), vs = [.ref pb, .ref pw, .ref pe] ∧ Dom M H ∧ (SqL K H pb us ∨ SqT K H pb us) ∧ DpAll K (hide M H) us (bowsD bs) ∧ SqL K H pw (ws.map V.str) ∧ SqL K H pe vs' ∧ Paired (EdV K (hide M H)) vs' es ∧
  (∀ x ∈ bs, okBow x) ∧ bs.length ≤ 100 ∧ (∀ x ∈ ws, x ∈ WAYSL) ∧ ws.length ≤ 100 ∧ okEds es ∧ es.length ≤ 500 ∧
  ∀ H' b, Same H H' → (∀ a ∈ b.fp, H a = none) → BookAt T (b.fp ++ M) H' b (trail (bs, canon fun x => ws.contains x) es) es [] → Q (.ref b.p) H'

variable {T}
theorem BookAt.less {M M' : List Addr} {H : Hp} {b : Bks} {sts : List Stt} {eds : List Ed} {und : List (Ed × Stt)} (h : BookAt T M H b sts eds und) (k : ∀ a ∈ M', a ∈ M) (m : ∀ a ∈ b.fp, a ∈ M') : BookAt T M' H b sts eds und :=
  h.up (fun _ _ _ e => e) (hide_more k) m
theorem hide_new_up {M F : List Addr} {H H' : Hp} (s : Same H H') (fr : ∀ a ∈ F, H a = none) : Same (hide M H) (hide (F ++ M) H') := hide_mono fun a o n e => ⟨fun z => by
  rcases List.mem_append.mp z with z | z
  · rw [fr a z] at e
    cases e
  · exact n z, s a o e⟩
variable (T)
theorem sc_face : FnScope ["_law_book"] ["_law_book"] (defScope s_face) := ⟨rfl, rfl, rfl, by decide +kernel, rfl, by decide +kernel, by decide +kernel⟩
theorem ok_face : FnOk P w K mg base CX0 3 T.face.f T.face.fd ["_law_book"] (spFace T) := by
  refine T.face.F.ok sc_face (fun vs H Q E h => ?_) (fun cdv A outer s H vs Q E hr h => ?_)
  · obtain ⟨M, b, sts, s, eds, und, rfl, _⟩ := h
    rfl
  · obtain ⟨M, b, sts, st, eds, und, rfl, dM, hB, hl, q⟩ := h
    obtain ⟨dx, hob⟩ := hB.ob
    have gr : FnOk P w K mg base CX0 1 T.bRow.f T.bRow.fd ["self"] (spBRow T) := ok_bRow T
    have gk : FnOk P w K mg base CX0 1 T.bKind.f T.bKind.fd ["self"] (spBKind T) := ok_bKind T
    have gB : FnOk P w K mg base CX0 1 T.rBows.f T.rBows.fd ["self"] (spRBows T) := ok_rBows T
    have gW : FnOk P w K mg base CX0 1 T.kWays.f T.kWays.fd ["self"] (spKWays T) := ok_kWays T
    have gL : FnOk P w K mg base CX0 1 T.bLog.f T.bLog.fd ["self"] (spBLog T) := ok_bLog T
    have gN : FnOk P w K mg base CX0 1 T.bLen.f T.bLen.fd ["self"] (spBLen T) := ok_bLen T
    have hr1 : Room 1 _ := hr.mono (by decide)
    refine ⟨_, pss_one (ps_ret (pe_lst (pa_cons (pe_meth0 (pe_prop (pv 0) T.book.cl T.bRow.m gr hr T.bRow.b .nil pass0 rfl) T.row.cl T.rBows.m gB hr1 T.rBows.b .nil pass0)
      (pa_cons (pe_meth0 (pe_prop (pv 0) T.book.cl T.bKind.m gk hr T.bKind.b .nil pass0 rfl) T.kind.cl T.kWays.m gW hr1 T.kWays.b .nil pass0)
      (pa_cons (pe_meth0 (pv 0) T.book.cl T.bLog.m gL hr1 T.bLog.b .nil pass0)
      (pa_cons (pe_callB (call_lenOwn gN hr T.bLen.b pass0 T.bLen.m) (by rfl) T.n_len PySem.boot_len (pa_cons (pv 0) pa_nil)) pa_nil)))))), ?_⟩
    refine ⟨_, rfl, b.p, dx, _, rfl, hob, M, b, sts, st, eds, und, rfl, hB, fun r hr' => ?_⟩
    have hr0 := row_up hide_sub hr'
    obtain ⟨pr, dr, lr, ur, rfl, x1, x2, x3⟩ := id hr0
    refine ⟨pr, dr, _, rfl, x1, rf_no (by decide +kernel), _, st.1, rfl, hr0, fun p1 us n1 hu1 hu => ?_⟩
    have hu2 := hu (hide M H) hide_sub hr'
    have s1 : Same H (upd H p1 (.lst us)) := same_upd (Same.refl H) n1
    have g1 : upd H p1 (.lst us) p1 = some (.lst us) := upd_same
    generalize upd H p1 (.lst us) = H1 at s1 g1
    refine ⟨_, rfl, b.p, dx, _, rfl, s1 _ _ hob, M, b, sts, st, eds, und, rfl, hB.same s1, fun k hk => ?_⟩
    have hk0 := kind_up hide_sub hk
    obtain ⟨pk, dk, lk, rfl, y1, y2⟩ := id hk0
    refine ⟨pk, dk, _, rfl, y1, kf_no (by decide +kernel), _, st.2, rfl, hk0, fun p2 n2 => ?_⟩
    have s2 : Same H1 (upd H1 p2 (.lst (st.2.map V.str))) := same_upd (Same.refl H1) n2
    have g2 : upd H1 p2 (.lst (st.2.map V.str)) p2 = some (.lst (st.2.map V.str)) := upd_same
    generalize upd H1 p2 (.lst (st.2.map V.str)) = H2 at s2 g2
    have s12 := s1.trans s2
    refine ⟨_, rfl, b.p, dx, _, rfl, s12 _ _ hob, bf_no (by decide +kernel) (by decide +kernel) (by decide +kernel), M, b, _, eds, und, rfl, hB.same s12, fun p3 es n3 he => ?_⟩
    have s3 : Same H2 (upd H2 p3 (.lst es)) := same_upd (Same.refl H2) n3
    have g3 : upd H2 p3 (.lst es) p3 = some (.lst es) := upd_same
    generalize upd H2 p3 (.lst es) = H3 at s3 g3
    have s13 := s12.trans s3
    refine ⟨_, rfl, b.p, dx, _, rfl, s13 _ _ hob, M, b, _, eds, und, rfl, hB.same s13, ⟨_, rfl, by omega, by omega, ?_⟩⟩
    refine ⟨by show 4 ≤ sizeLine; decide, fun p4 n4 => ?_⟩
    have s4 : Same H3 (upd H3 p4 (.lst [.ref p1, .ref p2, .ref p3, .int eds.length])) := same_upd (Same.refl H3) n4
    have new : ∀ {a o}, H a = none → upd H3 p4 (.lst [.ref p1, .ref p2, .ref p3, .int eds.length]) a = some o → hide M (upd H3 p4 (.lst [.ref p1, .ref p2, .ref p3, .int eds.length])) a = some o := fun na e => hide_get (hide_new dM na) e
    refine q _ p4 (s13.trans s4) (s13.free n4) (.lst (SqL.of (new (s13.free n4) upd_same)) (.cons (.lst (SqL.of (new n1 (s4 _ _ (s3 _ _ (s2 _ _ g1))))) (dpAll_up (hide_up (s13.trans s4)) hu2)) (.cons (.lst (SqL.of (new (s1.free n2) (s4 _ _ (s3 _ _ g2)))) (dpAll_strs _)) (.cons (.lst (SqL.of (new (s12.free n3) (s4 _ _ g3))) (dpAll_up (hide_up (s3.trans s4)) he)) (.cons (.int _) .nil)))))

theorem sc_done : FnScope ["_law_bows_here", "_law_ways", "_law_edits_here", "_law_found", "_law_edit"] ["_law_bows_here", "_law_ways", "_law_edits_here"] (defScope s_done) := ⟨rfl, rfl, rfl, by decide +kernel, rfl, by decide +kernel, by decide +kernel⟩
theorem ok_done : FnOk P w K mg base CX0 11 T.done.f T.done.fd ["_law_bows_here", "_law_ways", "_law_edits_here"] (spDone T) := by
  refine T.done.F.ok sc_done (fun vs H Q E h => ?_) (fun cdv A outer s H vs Q E hr h => ?_)
  · obtain ⟨M, pb, us, bs, pw, ws, pe, vs', es, rfl, _⟩ := h
    rfl
  · obtain ⟨M, pb, us, bs, pw, ws, pe, vs', es, rfl, dM, hus, hub, hws, hes, hed, okb, hbl, okw, hwl, oke, hel, q⟩ := h
    have gR : FnOk P w K mg base CX0 5 T.rInit.f T.rInit.fd ["self", "bows"] (spRInit T) := ok_rInit T
    have gK : FnOk P w K mg base CX0 3 T.kInit.f T.kInit.fd ["self", "ways"] (spKInit T) := ok_kInit T
    have gB : FnOk P w K mg base CX0 1 T.bInit.f T.bInit.fd ["self", "row", "kind"] (spBInit T) := ok_bInit T
    have gD : FnOk P w K mg base CX0 10 T.bDo.f T.bDo.fd ["self", "edit"] (spBDo T) := ok_bDo T
    have hr6 : Room (5 + 1) _ := hr.mono (by decide)
    have hr4 : Room (3 + 1) _ := hr.mono (by decide)
    have hr2 : Room (1 + 1) _ := hr.mono (by decide)
    refine ⟨_, pss_cons (ps_set (i := 3) sc_done.nd rfl (Or.inl rfl) (pe_make bMk gB hr2 (by rfl) T.book.mg T.bInit.b .nil pass0
          (pa_cons (pe_make rMk gR hr6 (by rfl) T.row.mg T.rInit.b .nil pass0 (pa_cons (pv 0) pa_nil)) (pa_cons (pe_make kMk gK hr4 (by rfl) T.kind.mg T.kInit.b .nil pass0 (pa_cons (pv 1) pa_nil)) pa_nil))))
      (pss_cons (ps_for PassesOwn.never rfl (pi_list (pv 2)) (pg_name (i := 4) sc_done.nd rfl (Or.inl rfl))
          (pss_one (ps_expr (pe_meth (pv 3) T.book.cl T.bDo.m gD hr T.bDo.b .nil pass0 (pa_cons (pv 4) pa_nil)))))
      (pss_one (ps_ret (pv 3)))), ?_⟩
    refine ⟨_, rfl, fun xr dr nr ndr ner => ?_⟩
    refine made_row2 (T := T) nr ndr ner hus (dpAll_up hide_sub hub) okb (by omega) fun H1 s1 hR => ⟨rfl, ?_⟩
    refine ⟨_, rfl, fun xk dk nk ndk nek => ?_⟩
    refine made_kind2 (T := T) nk ndk nek (s1.seq hws) okw hwl fun H2 s2 hK => ⟨rfl, ?_⟩
    have s12 := s1.trans s2
    have hR0 : RowAt T H2 (.ref xr) bs := row_up s2 (by have z := hR [] Dom.nil (by rw [hide_nil]; exact dpAll_up hide_sub hub); rw [hide_nil] at z; exact z)
    have hK0 : KindAt T H2 (.ref xk) (canon fun x => ws.contains x) := by have z := hK [] Dom.nil; rw [hide_nil] at z; exact z
    intro x dx nx ndx nex
    refine made_book2 (T := T) (s := (bs, canon fun x => ws.contains x)) nx ndx nex hR0 hK0 fun H3 b eb s3 fr hBk => ⟨rfl, ?_⟩
    subst eb
    have s13 := s12.trans s3
    have fr0 : ∀ a ∈ b.fp, H a = none := fun a h => s12.free (fr a h)
    have B0 := hBk M (dM.up s12) (row_up (hide_up s2) (hR M dM hub)) (hK M (dM.up s1))
    refine ⟨_, rfl, pe, rfl, ⟨_, s13.seq hes⟩, ?_⟩
    have hlen : vs'.length = es.length := paired_len hed
    refine for_list (xs := vs') (fun i σ H' => ∃ (b' : Bks) (z : Option V), b'.p = b.p ∧ σ = [some (.ref pb), some (.ref pw), some (.ref pe), some (.ref b.p), z] ∧ Same H H' ∧ (∀ a ∈ b'.fp, H a = none) ∧ BookAt T (b'.fp ++ M) H' b' (trail (bs, canon fun x => ws.contains x) (es.take i)) (es.take i) []) ?_ (fun i σ H' _ z => z.choose_spec.choose_spec.2.2.1.seq hes) (fun i v σ H' hx z => ?_) (fun σ H' z => ?_)
    · refine ⟨b, none, rfl, rfl, s13, fr0, ?_⟩
      exact B0
    · obtain ⟨b', z, ep, rfl, sH, fr', B⟩ := z
      have hi : i < es.length := by rw [← hlen]; exact (List.getElem?_eq_some_iff.mp hx).1
      obtain ⟨v', e1, hv⟩ := paired_get (i := i) (a := es[i]) hed (List.getElem?_eq_getElem hi)
      rw [hx] at e1
      cases e1
      obtain ⟨dx', hob⟩ := B.ob
      have okt : okEds (es.take i) := fun e he => oke e (List.mem_of_mem_take he)
      have lt : (es.take i).length = i := by rw [List.length_take]; omega
      have okS : okSt 900 (fin (bs, canon fun x => ws.contains x) (es.take i)) := okSt_mono (okSt_fin (n := 100) ⟨okb, hbl, canon_self _⟩ (by decide) _ okt) (by omega)
      have B1 := B
      rw [trail_last] at B1
      refine ⟨_, rfl, b.p, dx', _, rfl, by rw [← ep]; exact hob, bf_no (by decide +kernel) (by decide +kernel) (by decide +kernel), _, rfl, b'.fp ++ M, b', _, fin (bs, canon fun x => ws.contains x) (es.take i), es.take i, [], v, es[i], by rw [← ep]; rfl, ?_, B1, ?_, oke _ (List.getElem_mem hi), okS, ?_, by omega, ?_⟩
      · intro a ha
        rcases List.mem_append.mp ha with h | h
        · exact B.dom a h
        · exact (dM.up sH) a h
      · exact edV_up (hide_new_up sH fr') hv
      · rw [List.length_map, List.length_range]
        omega
      · intro H4 lu nlu kp B4
        have sH4 : Same H H4 := fun a o e => kp.at (fun z => by
          have z' : a ∈ b'.fp := by
            simp only [Bks.fp, List.mem_cons, List.not_mem_nil, or_false] at z ⊢
            rcases z with z | z | z
            · exact .inl z
            · exact .inr (.inl z)
            · exact .inr (.inr (.inl z))
          rw [fr' a z'] at e
          cases e) (sH a o e)
        refine ⟨{ b' with lu := lu }, some v, ep, rfl, sH4, fun a ha => ?_, ?_⟩
        · have ha' : a = b'.p ∨ a = b'.ls ∨ a = b'.le ∨ a = lu := by simpa [Bks.fp] using ha
          rcases ha' with rfl | rfl | rfl | rfl
          · exact fr' _ (by simp [Bks.fp])
          · exact fr' _ (by simp [Bks.fp])
          · exact fr' _ (by simp [Bks.fp])
          · exact sH.free nlu
        · rw [take_snoc hi, trail_snoc, trail_last]
          refine B4.less (fun a ha => ?_) fun a ha => List.mem_append_left _ ha
          rcases List.mem_append.mp ha with h | h
          · have ha' : a = b'.p ∨ a = b'.ls ∨ a = b'.le ∨ a = lu := by simpa [Bks.fp] using h
            rcases ha' with rfl | rfl | rfl | rfl <;> simp [Bks.fp]
          · simp [h]
    · obtain ⟨b', z, ep, rfl, sH, fr', B⟩ := z
      rw [hlen, List.take_length] at B
      refine ⟨_, rfl, ?_⟩
      rw [← ep]
      exact q H' b' sH fr' B

theorem sc_turned : FnScope ["_law_book", "_law_way", "e"] ["_law_book", "_law_way"] (defScope s_turned) := ⟨rfl, rfl, rfl, by decide +kernel, rfl, by decide +kernel, by decide +kernel⟩
theorem ok_turned : FnOk P w K mg base CX0 2 T.turned.f T.turned.fd ["_law_book", "_law_way"] (spTurned T) := by
  refine T.turned.F.ok sc_turned (fun vs H Q E h => ?_) (fun cdv A outer s H vs Q E hr h => ?_)
  · obtain ⟨M, b, sts, eds, und, k, rfl, _⟩ := h
    rfl
  · obtain ⟨M, b, sts, eds, und, k, rfl, dM, hB, h⟩ := h
    obtain ⟨dx, hob⟩ := hB.ob
    have gB : FnOk P w K mg base (L2.CX P w) 1 T.bBack.f T.bBack.fd ["self"] (spBBack T) := ok_bBack T
    have gA : FnOk P w K mg base (L2.CX P w) 1 T.bAgain.f T.bAgain.fd ["self"] (spBAgain T) := ok_bAgain T
    refine ⟨_, pss_one (ps_try_as (i := 2) (n := "e") (c := .ref T.cErr) (Wout := fun _ _ _ _ => False) rfl rfl sc_turned.nd rfl rfl ⟨by rfl, rfl, .inl T.mErr⟩ takes0
      (fun W pn xe tk po => pss_one (ps_ret (pe_ifExp (pt_cmpR op_eq (pv 1) pe_int (nomark _)) (pe_meth0S (E := WE W) (pv 0) T.book.cl T.bBack.m gB hr T.bBack.b (passAt tk)) (pe_meth0S (E := WE W) (pv 0) T.book.cl T.bAgain.m gA hr T.bAgain.b (passAt tk)))))
      (ts := fun a cls d D σ H => (cls = .ref T.cNot ∧ d = none) ∧ tRet (tIf (tB (tCB (rIsE K T.cNot a) (tCons (tVar 2) (tCons (tC (.ref T.cNot)) tNil)))) (tC (.str "nothing")) (tC (.str "other"))) D σ H)
      (fun a oe cls d pn hz hf => ⟨fun pins s σ H D I h => ?_⟩)), ?_⟩
    · obtain ⟨⟨rfl, rfl⟩, h⟩ := h
      exact (pss_one (ps_ret (pe_ifExp (pt_val (pe_callB (call_isE T.eNot hz hf) (by rfl) T.n_isinstance (by decide +kernel) (pa_cons (pv 2) (pa_cons (pe_glob (v := .ref T.cNot) (by rfl) T.mNot rfl) pa_nil)))) pe_str pe_str))).run pins s σ H D I h
    · have noB : (bf b.ls b.le b.lu).lookup ("back" : Str) = none := bf_no (by decide +kernel) (by decide +kernel) (by decide +kernel)
      have noA : (bf b.ls b.le b.lu).lookup ("again" : Str) = none := bf_no (by decide +kernel) (by decide +kernel) (by decide +kernel)
      have caught : ∀ {H' : Hp}, Q (.str "nothing") H' → wAs K (.ref T.cErr) 2 (fun a cls d D σ H => (cls = .ref T.cNot ∧ d = none) ∧ tRet (tIf (tB (tCB (rIsE K T.cNot a) (tCons (tVar 2) (tCons (tC (.ref T.cNot)) tNil)))) (tC (.str "nothing")) (tC (.str "other"))) D σ H) (fun _ _ _ _ => False) { nx := fun _ H' => Q .non H', rt := Q } (.ref T.cNot) none [some (.ref b.p), some (.int k), none] H' := fun {H'} hq =>
        ⟨true, T.mNE, fun _ a na => ⟨⟨rfl, rfl⟩, _, rfl, _, .ref T.cNot, true, rfl, fun u r => r, T.iNot, true, rfl, iteT hq⟩, fun z => by cases z⟩
      rcases h with ⟨rfl, h⟩ | ⟨rfl, h⟩
      · refine ⟨_, rfl, rfl, _, rfl, cT (by decide +kernel) ?_⟩
        refine ⟨_, rfl, b.p, dx, _, rfl, hob, noB, M, b, sts, eds, und, rfl, dM, hB, ?_⟩
        rcases h with ⟨e, h⟩ | h
        · exact .inl ⟨e, fun H' s1 => caught (h H' s1)⟩
        · exact .inr h
      · refine ⟨_, rfl, rfl, _, rfl, cF (by decide +kernel) ?_⟩
        refine ⟨_, rfl, b.p, dx, _, rfl, hob, noA, M, b, sts, eds, und, rfl, dM, hB, ?_⟩
        rcases h with ⟨e, h⟩ | h
        · exact .inl ⟨e, fun H' s1 => caught (h H' s1)⟩
        · exact .inr h
end
end Bk

/-! A face is laid, compared and shown: its sizes. -/
namespace Bk
open PySem L2 L2.BK

def Fit (d : PyData) (n : Nat) : Prop := PyData.showable d = true ∧ PyData.leavesShort 32 d = true ∧ PyData.weight d ≤ n
def FitA (ds : List PyData) (n : Nat) : Prop := PyData.showableAll ds = true ∧ PyData.leavesShortAll 32 ds = true ∧ PyData.weightAll ds ≤ n
theorem Fit.mono {d : PyData} {n m : Nat} (h : Fit d n) (k : n ≤ m) : Fit d m := ⟨h.1, h.2.1, Nat.le_trans h.2.2 k⟩
theorem FitA.nil : FitA [] 0 := ⟨rfl, rfl, Nat.le_refl _⟩
theorem FitA.cons {d : PyData} {ds : List PyData} {n m : Nat} (h : Fit d n) (g : FitA ds m) : FitA (d :: ds) (n + 1 + m) := by
  refine ⟨?_, ?_, ?_⟩
  · simp only [PyData.showableAll, h.1, g.1, Bool.and_self]
  · simp only [PyData.leavesShortAll, h.2.1, g.2.1, Bool.and_self]
  · have h1 := h.2.2
    have g1 := g.2.2
    show PyData.weight d + 1 + PyData.weightAll ds ≤ _
    omega
theorem Fit.list {ds : List PyData} {n : Nat} (h : FitA ds n) : Fit (.list ds) n := ⟨by simp only [PyData.showable]; exact h.1, by simp only [PyData.leavesShort]; exact h.2.1, by simp only [PyData.weight]; exact h.2.2⟩
theorem Fit.tuple {ds : List PyData} {n : Nat} (h : FitA ds n) : Fit (.tuple ds) n := ⟨by simp only [PyData.showable]; exact h.1, by simp only [PyData.leavesShort]; exact h.2.1, by simp only [PyData.weight]; exact h.2.2⟩
theorem FitA.map {α : Type} {f : α → PyData} {n : Nat} : ∀ (xs : List α), (∀ x ∈ xs, Fit (f x) n) → FitA (xs.map f) (xs.length * (n + 1))
  | [], _ => ⟨rfl, rfl, Nat.zero_le _⟩
  | x :: xs, h => by
    have z := FitA.cons (h x List.mem_cons_self) (FitA.map xs fun y hy => h y (List.mem_cons_of_mem _ hy))
    rw [List.length_cons, Nat.succ_mul, Nat.add_comm]
    exact z
theorem fit_int {i : Int} (h : i.natAbs < 10 ^ 31) : Fit (.int i) 104 := by
  have h2 : i.natAbs < 2 ^ 104 := Nat.lt_of_lt_of_le h (by decide)
  have hl : i.natAbs.log2 < 104 := PySem.Flt.log2_lt_of (by decide) h2
  refine ⟨?_, ?_, ?_⟩
  · simp only [PyData.showable, decide_eq_true_eq]
    omega
  · simp only [PyData.leavesShort, decide_eq_true_eq]
    have e := int_text_length_le10 (k := 31) (by decide) h
    show (Str.ofString (toString i)).length ≤ 32
    rw [ofString_length]
    exact e
  · simp only [PyData.weight]
    first | omega | (split <;> omega)
theorem strs_fit : ((WAYSL ++ tags).all fun x => PyData.leavesShort 32 (.str x) && decide (PyData.weight (.str x) ≤ 8)) = true := by decide +kernel
theorem fit_str {x : Str} (h : x ∈ WAYSL ++ tags) : Fit (.str x) 8 := by
  have z := List.all_eq_true.mp strs_fit x h
  have z := Bool.and_eq_true_iff.mp z
  exact ⟨by simp only [PyData.showable], z.1, of_decide_eq_true z.2⟩
theorem fit_way {x : Str} (h : x ∈ WAYSL) : Fit (.str x) 8 := fit_str (List.mem_append_left _ h)
theorem fit_tag (e : Ed) : Fit (.str (tag e)) 8 := fit_str (List.mem_append_right _ (tag_mem e))
theorem fit_bow {b : Bow} (h : okBow b) : Fit (bowD b) 210 := by
  obtain ⟨h1, h2, h3⟩ := h
  unfold Big at h2 h3
  exact .tuple (.cons (fit_int (by omega)) (.cons (fit_int (by omega)) .nil))
theorem fit_ed {e : Ed} (h : okEd e) : Fit (edD e) 700 := by
  rw [edD_eq]
  refine Fit.mono (Fit.tuple (.cons (fit_tag e) (m := 690) ?_)) (by omega)
  have up : ∀ {ds : List PyData} {n : Nat}, FitA ds n → n ≤ 690 → FitA ds 690 := fun g k => ⟨g.1, g.2.1, Nat.le_trans g.2.2 k⟩
  cases e with
  | turn => exact up .nil (by omega)
  | let_ x => exact up (.cons (fit_way h) .nil) (by omega)
  | bar x => exact up (.cons (fit_way h) .nil) (by omega)
  | row bs =>
    have hl : bs.length ≤ 3 := h.2
    exact up (.cons (.tuple (FitA.map bs fun x hx => fit_bow (h.1 x hx))) .nil) (by omega)
  | put b => exact up (.cons (fit_bow h) .nil) (by omega)
theorem fit_face {s : Stt} {es : List Ed} (hb : ∀ b ∈ s.1, okBow b) (hl : s.1.length ≤ 300) (hw : ∀ x ∈ s.2, x ∈ WAYSL) (hwl : s.2.length ≤ 7) (he : okEds es) (hel : es.length ≤ 300) : Fit (faceD s es) 400000 := by
  unfold faceD
  refine Fit.mono (.list (.cons (.list (FitA.map s.1 fun x hx => fit_bow (hb x hx))) (.cons (.list (FitA.map s.2 fun x hx => fit_way (hw x hx))) (.cons (.list (FitA.map es fun x hx => fit_ed (he x hx))) (.cons (fit_int ?_) .nil))))) ?_
  · show (es.length : Int).natAbs < 10 ^ 31
    omega
  · omega
theorem face_shown {s : Stt} {es : List Ed} (hb : ∀ b ∈ s.1, okBow b) (hl : s.1.length ≤ 300) (hw : ∀ x ∈ s.2, x ∈ WAYSL) (hwl : s.2.length ≤ 7) (he : okEds es) (hel : es.length ≤ 300) :
    PyData.showable (faceD s es) = true ∧ (faceD s es).shown.length ≤ sizeLine := by
  have f := fit_face hb hl hw hwl he hel
  refine ⟨f.1, ?_⟩
  have z := PyData.shown_le 32 (by decide) _ f.2.1
  have w := f.2.2
  rw [PySem.sizeLine_eq]
  omega
theorem face_shaped {s : Stt} {es : List Ed} (hw : ∀ x ∈ s.2, x ∈ WAYSL) (he : okEds es) : SeqAt.shaped (faceD s es) = true := by
  have d1 := bows_depth s.1
  have d2 := strs_depth s.2
  have d3 := eds_depth es
  have l : PyData.canLay0 (faceD s es) = true := by
    unfold faceD
    simp only [PyData.canLay0, PyData.canLayAll0, bows_lay s.1, strs_lay s.2 hw, eds_lay es he, Bool.and_self]
  have e : PyData.depth (faceD s es) ≤ 64 := by
    unfold faceD
    simp only [PyData.depth, PyData.depthAll]
    have z : Nat.max (1 + PyData.depthAll (bowsD s.1)) (Nat.max (1 + PyData.depthAll (strsD s.2)) (Nat.max (1 + PyData.depthAll (es.map edD)) (Nat.max 0 0))) ≤ 4 := max_le (by omega) (max_le (by omega) (max_le (by omega) (by decide)))
    first | omega | (have z' := z; simp only [Nat.max_def] at z' ⊢; omega)
  show (PyData.canLay0 (faceD s es) && decide (PyData.depth (faceD s es) ≤ 64)) = true
  rw [l, decide_eq_true e]
  rfl
theorem face_eqv (s : Stt) (es : List Ed) : PyData.eqv (faceD s es) (faceD s es) = true := by
  unfold faceD
  simp only [PyData.eqv, PyData.eqvAll, bowsD_eqv, strsD_eqv, edsD_eqv, decide_true, Bool.and_self, beq_self_eq_true]
end Bk

/-! A book at a place of its edits; alike. -/
namespace Bk
open PySem L2 L2.BK

/-! ### what is undone at a place -/
def prs (s : Stt) (es : List Ed) : List (Ed × Stt) := (List.range es.length).map fun i => (es.getD i .turn, fin s (es.take (i + 1)))
def undo (s : Stt) (es : List Ed) (j : Nat) : List (Ed × Stt) := ((prs s es).drop j).reverse
theorem prs_len (s : Stt) (es : List Ed) : (prs s es).length = es.length := by
  unfold prs
  rw [List.length_map, List.length_range]
theorem prs_get (s : Stt) (es : List Ed) {i : Nat} (h : i < es.length) : (prs s es)[i]'(by rw [prs_len]; exact h) = (es[i], fin s (es.take (i + 1))) := by
  unfold prs
  rw [List.getElem_map, List.getElem_range, List.getD_eq_getElem?_getD, List.getElem?_eq_getElem h]
  rfl
theorem undo_step {s : Stt} {es : List Ed} {j : Nat} (h : j < es.length) : undo s es j = undo s es (j + 1) ++ [(es[j], fin s (es.take (j + 1)))] := by
  unfold undo
  have h' : j < (prs s es).length := by rw [prs_len]; exact h
  rw [List.drop_eq_getElem_cons h', List.reverse_cons, prs_get s es h]
theorem undo_end (s : Stt) (es : List Ed) : undo s es es.length = [] := by
  unfold undo
  rw [List.drop_of_length_le (by rw [prs_len]; exact Nat.le_refl _)]
  rfl
theorem undo_len (s : Stt) (es : List Ed) (j : Nat) : (undo s es j).length ≤ es.length := by
  unfold undo
  rw [List.length_reverse, List.length_drop, prs_len]
  omega
theorem trail_step {s : Stt} {es : List Ed} {j : Nat} (h : j < es.length) : trail s (es.take (j + 1)) = trail s (es.take j) ++ [fin s (es.take (j + 1))] := by
  rw [take_snoc h, trail_snoc, ← fin_snoc]
theorem atI_back {α : Type} {xs : List α} {k : Nat} {v : α} {i : Int} (h : k < xs.length) (e : xs[xs.length - 1 - k]? = some v) (hi : i = -1 - (k : Int)) : atI xs i = some v := by
  subst hi
  have q : ixN xs.length (-1 - (k : Int)) = some (xs.length - 1 - k) := by
    unfold ixN
    rw [if_neg (by omega), if_pos (by omega)]
    congr 1
    omega
  unfold atI
  rw [q]
  exact e

/-! ### heaps -/
section
variable {F G M M' : List Addr} {H H' H'' : Hp} {a p : Addr}
/-- a second step, on what is new -/
theorem Kp.fresh_step (k : Kp F H H') (n : ∀ a ∈ G, H a = none) (l : Kp G H' H'') : Kp F H H'' :=
  ⟨fun a o m e => l.at (fun z => by rw [n a z] at e; cases e) (k.at m e), fun a o e => let ⟨u, z⟩ := k.live a o e; l.live a u z⟩
theorem Kp.same_of (k : Kp F H H') (n : ∀ a ∈ F, H a = none) : Same H H' := fun a o e => k.at (fun z => by rw [n a z] at e; cases e) e
theorem Kp.snd (k : Kp F H H') (s : Same H' H'') : Kp F H H'' := k.trans (.of s)
theorem Same.kp (s : Same H H') : Kp F H H' := .of s
/-- a new address: what stood, stands, with it hidden too -/
theorem hide_one (s : Same H H') (n : H a = none) : Same (hide M H) (hide (a :: M) H') := hide_mono fun b o m e => ⟨fun z => by
  rcases List.mem_cons.mp z with z | z
  · rw [z, n] at e
    cases e
  · exact m z, s b o e⟩
end

section
variable {P : Program} {w : World} {K : PySem.W.Frag} {mg : Str → Option Value} {base : Heap} (T : Txt P w K mg)
/-- a book that has done es, at the j-th place -/
structure At (M : List Addr) (H : Hp) (b : Bks) (s : Stt) (es : List Ed) (j : Nat) : Prop where
  le : j ≤ es.length
  bk : BookAt T M H b (trail s (es.take j)) (es.take j) (undo s es j)
def spAlike (K : PySem.W.Frag) : Sp := fun vs H Q _ => ∃ v u s es, vs = [v, u] ∧ Dp K H v (faceD s es) ∧ Dp K H u (faceD s es) ∧ okSt 300 s ∧ okEds es ∧ es.length ≤ 300 ∧ Q (.bl true) H
variable {T}
theorem okTake {es : List Ed} (h : okEds es) (j : Nat) : okEds (es.take j) := fun e he => h e (List.mem_of_mem_take he)
theorem At.up {M M' : List Addr} {H H' : Hp} {b : Bks} {s : Stt} {es : List Ed} {j : Nat} (h : At T M H b s es j) (k : ∀ a ∈ b.fp, ∀ o, H a = some o → H' a = some o) (hk : Same (hide M H) (hide M' H')) (hm : ∀ a ∈ b.fp, a ∈ M') : At T M' H' b s es j := ⟨h.le, h.bk.up k hk hm⟩
theorem At.same {M : List Addr} {H H' : Hp} {b : Bks} {s : Stt} {es : List Ed} {j : Nat} (h : At T M H b s es j) (k : Same H H') : At T M H' b s es j := ⟨h.le, h.bk.same k⟩
/-- under a step on addresses of M, none of them its own -/
theorem At.kp {F M : List Addr} {H H' : Hp} {b : Bks} {s : Stt} {es : List Ed} {j : Nat} (h : At T M H b s es j) (k : Kp F H H') (hF : ∀ a ∈ F, a ∈ M) (n : ∀ a ∈ F, a ∉ b.fp) : At T M H' b s es j :=
  h.up (fun a ha o e => k.at (fun z => n a z ha) e) (k.hide hF) h.bk.mem
theorem BookAt.kp {F M : List Addr} {H H' : Hp} {b : Bks} {sts : List Stt} {eds : List Ed} {und : List (Ed × Stt)} (h : BookAt T M H b sts eds und) (k : Kp F H H') (hF : ∀ a ∈ F, a ∈ M) (n : ∀ a ∈ F, a ∉ b.fp) : BookAt T M H' b sts eds und :=
  h.up (fun a ha o e => k.at (fun z => n a z ha) e) (k.hide hF) h.mem
theorem BookAt.one {M : List Addr} {H H' : Hp} {b : Bks} {sts : List Stt} {eds : List Ed} {und : List (Ed × Stt)} {a : Addr} (h : BookAt T M H b sts eds und) (s : Same H H') (n : H a = none) : BookAt T (a :: M) H' b sts eds und :=
  h.up (fun _ _ o e => s _ o e) (hide_one s n) fun x hx => List.mem_cons_of_mem _ (h.mem x hx)
/-- turned back, not from the start -/
theorem sp_back {M : List Addr} {H : Hp} {b : Bks} {s : Stt} {es : List Ed} {j : Nat} {Q : VK} {E : XK} (dM : Dom M H) (h : At T M H b s es (j + 1)) (hl : es.length ≤ 500)
    (q : ∀ H' v, Kp [b.ls, b.le, b.lu] H H' → Dp K (hide M H') v (edD (es[j]'(h.le))) → At T M H' b s es j → Q v H') : spTurned T [.ref b.p, .int 0] H Q E := by
  have hj : j < es.length := h.le
  have B := h.bk
  refine ⟨M, b, _, _, _, 0, rfl, dM, B, .inl ⟨rfl, .inr ⟨es.take j, es[j], trail s (es.take j), fin s (es.take (j + 1)), take_snoc hj, trail_step hj, Nat.le_trans (undo_len _ _ _) (by omega), fun H' v k hv hB => ?_⟩⟩⟩
  refine q H' v k hv ⟨Nat.le_of_lt hj, ?_⟩
  rw [undo_step hj]
  exact hB
theorem sp_back0 {M : List Addr} {H : Hp} {b : Bks} {s : Stt} {es : List Ed} {Q : VK} {E : XK} (dM : Dom M H) (h : At T M H b s es 0) (q : ∀ H', Same H H' → Q (.str "nothing") H') : spTurned T [.ref b.p, .int 0] H Q E :=
  ⟨M, b, _, _, _, 0, rfl, dM, h.bk, .inl ⟨rfl, .inl ⟨rfl, q⟩⟩⟩
theorem sp_again {M : List Addr} {H : Hp} {b : Bks} {s : Stt} {es : List Ed} {j : Nat} {Q : VK} {E : XK} (dM : Dom M H) (h : At T M H b s es j) (hj : j < es.length) (hl : es.length ≤ 500)
    (q : ∀ H' v, Kp [b.ls, b.le, b.lu] H H' → Dp K (hide M H') v (edD es[j]) → At T M H' b s es (j + 1) → Q v H') : spTurned T [.ref b.p, .int 1] H Q E := by
  have B := h.bk
  refine ⟨M, b, _, _, _, 1, rfl, dM, B, .inr ⟨rfl, .inr ⟨undo s es (j + 1), es[j], fin s (es.take (j + 1)), undo_step hj, ?_, ?_, fun H' v k hv hB => ?_⟩⟩⟩
  · rw [trail_len, List.length_take]
    omega
  · rw [List.length_take]
    omega
  refine q H' v k hv ⟨hj, ?_⟩
  rw [trail_step hj, take_snoc hj]
  rw [take_snoc hj] at hB
  exact hB
theorem sp_again_end {M : List Addr} {H : Hp} {b : Bks} {sts : List Stt} {eds : List Ed} {Q : VK} {E : XK} (dM : Dom M H) (h : BookAt T M H b sts eds []) (q : ∀ H', Same H H' → Q (.str "nothing") H') : spTurned T [.ref b.p, .int 1] H Q E :=
  ⟨M, b, _, _, _, 1, rfl, dM, h, .inr ⟨rfl, .inl ⟨rfl, q⟩⟩⟩
theorem At.end_ {M : List Addr} {H : Hp} {b : Bks} {s : Stt} {es : List Ed} (h : At T M H b s es es.length) : BookAt T M H b (trail s es) es [] := by
  have B := h.bk
  rw [undo_end, List.take_length] at B
  exact B
theorem At.of_end {M : List Addr} {H : Hp} {b : Bks} {s : Stt} {es : List Ed} (B : BookAt T M H b (trail s es) es []) : At T M H b s es es.length :=
  ⟨Nat.le_refl _, by rw [undo_end, List.take_length]; exact B⟩
/-- the face at a place -/
def faceJ (s : Stt) (es : List Ed) (j : Nat) : PyData := faceD (fin s (es.take j)) (es.take j)
theorem sp_face {M : List Addr} {H : Hp} {b : Bks} {s : Stt} {es : List Ed} {j : Nat} {Q : VK} {E : XK} (dM : Dom M H) (h : At T M H b s es j) (hl : es.length ≤ 500)
    (q : ∀ H' p, Same H H' → H p = none → Dp K (hide M H') (.ref p) (faceJ s es j) → Q (.ref p) H') : spFace T [.ref b.p] H Q E := by
  have B := h.bk
  rw [trail_last] at B
  exact ⟨M, b, _, _, _, _, rfl, dM, B, by rw [List.length_take]; omega, q⟩
theorem sp_copied {M : List Addr} {H : Hp} {b : Bks} {s : Stt} {es : List Ed} {j : Nat} {Q : VK} {E : XK} (dM : Dom M H) (h : At T M H b s es j)
    (q : ∀ H' b', Same H H' → (∀ a ∈ b'.fp, H a = none) → At T (b'.fp ++ M) H' b' s es j → Q (.ref b'.p) H') : spBCopied T [.ref b.p] H Q E := by
  have B := h.bk
  obtain ⟨r, hr⟩ := trail_head s (es.take j)
  rw [hr] at B
  refine ⟨M, b, _, _, _, _, rfl, dM, B, fun H' b' s1 fr hB => q H' b' s1 fr ⟨h.le, ?_⟩⟩
  rw [hr]
  exact hB
/-- two books compared -/
theorem sp_eq {M M2 : List Addr} {H : Hp} {b b2 : Bks} {s s2 : Stt} {es es2 : List Ed} {u u2 : List (Ed × Stt)} {Q : VK} {E : XK} (h : BookAt T M H b (trail s es) es u) (g : BookAt T M2 H b2 (trail s2 es2) es2 u2) (o1 : okEds es) (o2 : okEds es2) (k1 : okSt 900 s) (k2 : okSt 900 s2)
    (q : ∀ H', Same H H' → Q (.bl (decide (es = es2 ∧ s = s2))) H') : spBEq T [.ref b.p, .ref b2.p] H Q E := by
  obtain ⟨r, hr⟩ := trail_head s es
  obtain ⟨r2, hr2⟩ := trail_head s2 es2
  rw [hr] at h
  rw [hr2] at g
  exact ⟨M, b, s, r, es, u, _, rfl, h, o1, k1, .inl ⟨M2, b2, s2, r2, es2, u2, rfl, g, o2, k2, q⟩⟩
theorem okJ {s : Stt} {es : List Ed} (hs : okSt 100 s) (he : okEds es) (hl : es.length ≤ 200) (j : Nat) : okSt 300 (fin s (es.take j)) ∧ okEds (es.take j) ∧ (es.take j).length ≤ 300 := by
  have l : (es.take j).length ≤ 200 := by rw [List.length_take]; omega
  exact ⟨okSt_mono (okSt_fin hs (by decide) _ (okTake he j)) (by omega), okTake he j, by omega⟩
theorem sp_alike {H : Hp} {v u : V} {s : Stt} {es : List Ed} {j : Nat} {Q : VK} {E : XK} (h : Dp K H v (faceJ s es j)) (g : Dp K H u (faceJ s es j)) (hs : okSt 100 s) (he : okEds es) (hl : es.length ≤ 200) (q : Q (.bl true) H) : spAlike K [v, u] H Q E := by
  obtain ⟨a, b, c⟩ := okJ hs he hl j
  exact ⟨v, u, _, _, rfl, h, g, a, b, c, q⟩

variable (T)
theorem sc_alike : FnScope ["_law_found", "_law_due"] ["_law_found", "_law_due"] (defScope s_alike) := ⟨rfl, rfl, rfl, by decide +kernel, rfl, by decide +kernel, by decide +kernel⟩
theorem ok_alike : FnG P w K mg base CX0 1 T.alike.f T.alike.fd ["_law_found", "_law_due"] (spAlike K) := by
  refine fun_okG T.alike.F sc_alike (fun vs H Q E h => ?_) (fun cdv A outer s H vs Q E hg hr h => ?_)
  · obtain ⟨v, u, s, es, rfl, _⟩ := h
    rfl
  · obtain ⟨v, u, st, es, rfl, hv, hu, os, oe, hl, q⟩ := h
    have hun : (A.deeper (PyProof.Rows.envOfC ("_law_alike" : Str) (defScope s_alike) s.heap.objs.size T.alike.f cdv)).units + 66 < cLine := by have := hr.un; omega
    refine ⟨_, pss_one (ps_ret (pe_and (pe_cmpR (op_eqD hr.units) (pv 0) (pv 1) (nomark _)) (pe_one (pe_cmpR op_eq (pe_callB (call_reprD hg hun) (by rfl) T.n_repr (by decide +kernel) (pa_cons (pv 0) pa_nil)) (pe_callB (call_reprD hg hun) (by rfl) T.n_repr (by decide +kernel) (pa_cons (pv 1) pa_nil)) (nomark _))))), ?_⟩
    have hw := okSt_ways os
    have hs := face_shaped hw oe
    obtain ⟨hsh, hlen⟩ := face_shown os.1 os.2.1 hw (canonLe os.2.2) oe hl
    obtain ⟨a, va, rfl, _⟩ := lst_inv (show Dp K H v (.list _) from hv)
    obtain ⟨b, vb, rfl, _⟩ := lst_inv (show Dp K H u (.list _) from hu)
    refine ⟨_, rfl, _, rfl, _, _, hv, hu, hs, hs, _, rfl, ?_⟩
    rw [face_eqv]
    refine iteT ?_
    refine ⟨_, rfl, _, _, rfl, hv, hs, ⟨_, rfl⟩, hsh, hlen, _, rfl, _, _, rfl, hu, hs, ⟨_, rfl⟩, hsh, hlen, rfl, ?_⟩
    show Q (V.bl (decide _)) H
    rw [decide_eq_true rfl]
    exact q
end
end Bk

/-! The walks: through right. -/
namespace Bk
open PySem L2 L2.BK

section
variable {P : Program} {w : World} {K : PySem.W.Frag} {mg : Str → Option Value} {base : Heap} (T : Txt P w K mg)
def facesD (s : Stt) (es : List Ed) : List PyData := (List.range (es.length + 1)).map (faceJ s es)
theorem facesD_get {s : Stt} {es : List Ed} {j : Nat} (h : j ≤ es.length) : (facesD s es)[j]? = some (faceJ s es j) := by
  unfold facesD
  rw [List.getElem?_map, List.getElem?_range (by omega)]
  rfl
theorem facesD_len (s : Stt) (es : List Ed) : (facesD s es).length = es.length + 1 := by
  unfold facesD
  rw [List.length_map, List.length_range]
theorem eds_get {es : List Ed} {j : Nat} (h : j < es.length) : (es.map edD)[j]? = some (edD es[j]) := by
  rw [List.getElem?_map, List.getElem?_eq_getElem h]
  rfl
theorem ed_eqv (e : Ed) : PyData.eqv (edD e) (edD e) = true := by rw [edD_eqv, decide_eq_true rfl]
def Bks.ops (b : Bks) : List Addr := [b.ls, b.le, b.lu]
theorem ops_fp {b : Bks} : ∀ a ∈ b.ops, a ∈ b.fp := fun a h => List.mem_cons_of_mem _ h
/-- what the checks share: the edits and the faces as they stand, outside of M -/
structure Given (K : PySem.W.Frag) (M : List Addr) (H : Hp) (s : Stt) (es : List Ed) (pe pf : Addr) (ve vf : List V) : Prop where
  dom : Dom M H
  pe : H pe = some (.lst ve)
  ve : DpAll K (hide M H) ve (es.map edD)
  pf : H pf = some (.lst vf)
  vf : DpAll K (hide M H) vf (facesD s es)
  oe : okEds es
  ne : 1 ≤ es.length
  le : es.length ≤ 200
  os : okSt 100 s
theorem Given.up {M M' : List Addr} {H H' : Hp} {s : Stt} {es : List Ed} {pe pf : Addr} {ve vf : List V} (g : Given K M H s es pe pf ve vf) (k : Same (hide M H) (hide M' H')) (d : Dom M' H') (h1 : H' pe = some (.lst ve)) (h2 : H' pf = some (.lst vf)) : Given K M' H' s es pe pf ve vf :=
  ⟨d, h1, dpAll_up k g.ve, h2, dpAll_up k g.vf, g.oe, g.ne, g.le, g.os⟩
theorem Given.kp {F M : List Addr} {H H' : Hp} {s : Stt} {es : List Ed} {pe pf : Addr} {ve vf : List V} (g : Given K M H s es pe pf ve vf) (k : Kp F H H') (hF : ∀ a ∈ F, a ∈ M) (n1 : pe ∉ F) (n2 : pf ∉ F) : Given K M H' s es pe pf ve vf :=
  g.up (k.hide hF) (k.dom g.dom) (k.at n1 g.pe) (k.at n2 g.pf)
theorem Given.same {M : List Addr} {H H' : Hp} {s : Stt} {es : List Ed} {pe pf : Addr} {ve vf : List V} (g : Given K M H s es pe pf ve vf) (k : Same H H') : Given K M H' s es pe pf ve vf :=
  g.up (hide_up k) (g.dom.up k) (k _ _ g.pe) (k _ _ g.pf)
theorem Given.new {M F : List Addr} {H H' : Hp} {s : Stt} {es : List Ed} {pe pf : Addr} {ve vf : List V} (g : Given K M H s es pe pf ve vf) (k : Same H H') (fr : ∀ a ∈ F, H a = none) (dF : Dom F H') : Given K (F ++ M) H' s es pe pf ve vf :=
  g.up (hide_new_up k fr) (fun a ha => (List.mem_append.mp ha).elim (dF a) (g.dom.up k a)) (k _ _ g.pe) (k _ _ g.pf)
theorem Given.edit {M : List Addr} {H : Hp} {s : Stt} {es : List Ed} {pe pf : Addr} {ve vf : List V} (g : Given K M H s es pe pf ve vf) {j : Nat} (h : j < es.length) : ∃ v, ve[j]? = some v ∧ Dp K H v (edD es[j]) := by
  obtain ⟨v, h1, h2⟩ := dpAll_get g.ve (eds_get h)
  exact ⟨v, h1, dp_up hide_sub h2⟩
theorem Given.face {M : List Addr} {H : Hp} {s : Stt} {es : List Ed} {pe pf : Addr} {ve vf : List V} (g : Given K M H s es pe pf ve vf) {j : Nat} (h : j ≤ es.length) : ∃ v, vf[j]? = some v ∧ Dp K H v (faceJ s es j) := by
  obtain ⟨v, h1, h2⟩ := dpAll_get g.vf (facesD_get h)
  exact ⟨v, h1, dp_up hide_sub h2⟩
theorem Given.lve {M : List Addr} {H : Hp} {s : Stt} {es : List Ed} {pe pf : Addr} {ve vf : List V} (g : Given K M H s es pe pf ve vf) : ve.length = es.length := (dpAll_len g.ve).trans (List.length_map _)
theorem Given.lvf {M : List Addr} {H : Hp} {s : Stt} {es : List Ed} {pe pf : Addr} {ve vf : List V} (g : Given K M H s es pe pf ve vf) : vf.length = es.length + 1 := (dpAll_len g.vf).trans (facesD_len _ _)
theorem Given.o9 {M : List Addr} {H : Hp} {s : Stt} {es : List Ed} {pe pf : Addr} {ve vf : List V} (g : Given K M H s es pe pf ve vf) : okSt 900 s := okSt_mono g.os (by decide)
def spThrough : Sp := fun vs H Q _ => ∃ M s es f k pe pf ve vf, vs = [.ref k.p, .ref f.p, .ref pe, .ref pf] ∧ Given K M H s es pe pf ve vf ∧ BookAt T M H f (trail s []) [] [] ∧ At T M H k s es es.length ∧
  (∀ a ∈ k.ops, a ∉ f.fp) ∧ pe ∉ k.ops ∧ pf ∉ k.ops ∧ ∀ H', Kp k.ops H H' → At T M H' k s es 0 → Q (.bl true) H'
theorem At.ob {M : List Addr} {H : Hp} {b : Bks} {s : Stt} {es : List Ed} {j : Nat} {T : Txt P w K mg} (h : At T M H b s es j) : ∃ dx, H b.p = some (.ins T.book.C dx (bf b.ls b.le b.lu)) := h.bk.ob
theorem At.mo {M : List Addr} {H : Hp} {b : Bks} {s : Stt} {es : List Ed} {j : Nat} {T : Txt P w K mg} (h : At T M H b s es j) : ∀ a ∈ b.ops, a ∈ M := fun a ha => h.bk.mem a (ops_fp a ha)
theorem tyBook {M : List Addr} {H : Hp} {b : Bks} {sts : List Stt} {eds : List Ed} {und : List (Ed × Stt)} {T : Txt P w K mg} (h : BookAt T M H b sts eds und) : TyR K H (.ref b.p) (.ref T.book.C) := by
  obtain ⟨dx, e⟩ := h.ob
  exact .inr (.inr ⟨_, _, _, _, rfl, e, rfl⟩)
theorem noCopied {ls le lu : Addr} : (bf ls le lu).lookup ("copied" : Str) = none := bf_no (by decide +kernel) (by decide +kernel) (by decide +kernel)
theorem noDo {ls le lu : Addr} : (bf ls le lu).lookup ("do" : Str) = none := bf_no (by decide +kernel) (by decide +kernel) (by decide +kernel)

theorem sc_through : FnScope ["_law_book", "_law_first", "_law_edits_here", "_law_faces", "_law_k", "_law_other_here"] ["_law_book", "_law_first", "_law_edits_here", "_law_faces"] (defScope s_through) := ⟨rfl, rfl, rfl, by decide +kernel, rfl, by decide +kernel, by decide +kernel⟩
theorem ok_through : FnG P w K mg base CX0 6 T.through.f T.through.fd ["_law_book", "_law_first", "_law_edits_here", "_law_faces"] (spThrough T) := by
  refine fun_okG T.through.F sc_through (fun vs H Q E h => ?_) (fun cdv A outer sh H vs Q E hg hr h => ?_)
  · obtain ⟨M, s, es, f, k, pe, pf, ve, vf, rfl, _⟩ := h
    rfl
  · obtain ⟨M, s, es, f, k, pe, pf, ve, vf, rfl, G, hf, hk, nf, ne, npf, q⟩ := h
    have gT : FnOk P w K mg base CX0 2 T.turned.f T.turned.fd ["_law_book", "_law_way"] (spTurned T) := ok_turned T
    have gF : FnOk P w K mg base CX0 3 T.face.f T.face.fd ["_law_book"] (spFace T) := ok_face T
    have gA : FnG P w K mg base CX0 1 T.alike.f T.alike.fd ["_law_found", "_law_due"] (spAlike K) := ok_alike T
    have gE : FnOk P w K mg base CX0 4 T.bEq.f T.bEq.fd ["self", "other"] (spBEq T) := ok_bEq T
    have gC : FnOk P w K mg base CX0 3 T.bCopied.f T.bCopied.fd ["self"] (spBCopied T) := ok_bCopied T
    have hr2 : Room 2 _ := hr.mono (by decide)
    have hr3 : Room 3 _ := hr.mono (by decide)
    have hr1 : Room 1 _ := hr.mono (by decide)
    refine ⟨_, pss_cons (ps_for (passes_of rfl) rfl (pi_range1 (by rfl) T.n_range (pa_cons (pe_callB call_len_seq (by rfl) T.n_len PySem.boot_len (pa_cons (pv 2) pa_nil)) pa_nil)) (pg_name (i := 4) sc_through.nd rfl (Or.inl rfl))
        (pss_one (ps_if (PW.pt (pw_or (pt_cmpR (op_neD hr.units) (pe_call gT hr2 (by rfl) T.turned.mg T.turned.F.kp T.turned.b .nil pass0 (pa_cons (pv 0) (pa_cons pe_int pa_nil))) (pe_ix ix_list (pv 2) (pe_op op_sub (pe_un un_neg pe_int) (pv 4)) (fun _ _ => rfl)) (nomark _))
            (pw_or1 (pt_not (pt_val (pe_callG gA hg hr1 (by rfl) T.alike.mg T.alike.F.kp T.alike.b pass0 (pa_cons (pe_call gF hr3 (by rfl) T.face.mg T.face.F.kp T.face.b .nil pass0 (pa_cons (pv 0) pa_nil)) (pa_cons (pe_ix ix_list (pv 3) (pe_op op_sub (pe_un un_neg pe_int) (pv 4)) (fun _ _ => rfl)) pa_nil))))))))
          (pss_one (ps_ret pe_bl)) pss_nil)))
      (pss_cons (ps_if (PW.pt (pw_or (pt_cmpR op_ne (pe_call gT hr2 (by rfl) T.turned.mg T.turned.F.kp T.turned.b .nil pass0 (pa_cons (pv 0) (pa_cons pe_int pa_nil))) pe_str (nomark _))
            (pw_or1 (pt_cmpR (op_ne_own gE hr T.bEq.b pass0 T.bEq.m T.ne1 T.book.ob) (pv 0) (pv 1) (nomark _))))) (pss_one (ps_ret pe_bl)) pss_nil)
      (pss_cons (ps_set (i := 5) sc_through.nd rfl (Or.inl rfl) (pe_meth0 (pv 0) T.book.cl T.bCopied.m gC hr3 T.bCopied.b .nil pass0))
      (pss_cons (ps_for (passes_of rfl) rfl (pi_range1 (by rfl) T.n_range (pa_cons (pe_callB call_len_seq (by rfl) T.n_len PySem.boot_len (pa_cons (pv 2) pa_nil)) pa_nil)) (pg_name (i := 4) sc_through.nd rfl (Or.inl rfl))
        (pss_one (ps_if (PW.pt (pw_or (pt_cmpR (op_neD hr.units) (pe_call gT hr2 (by rfl) T.turned.mg T.turned.F.kp T.turned.b .nil pass0 (pa_cons (pv 5) (pa_cons pe_int pa_nil))) (pe_ix ix_list (pv 2) (pv 4) (fun _ _ => rfl)) (nomark _))
            (pw_or1 (pt_not (pt_val (pe_callG gA hg hr1 (by rfl) T.alike.mg T.alike.F.kp T.alike.b pass0 (pa_cons (pe_call gF hr3 (by rfl) T.face.mg T.face.F.kp T.face.b .nil pass0 (pa_cons (pv 5) pa_nil)) (pa_cons (pe_ix ix_list (pv 3) (pe_op op_add (pv 4) pe_int) (fun _ _ => rfl)) pa_nil))))))))
          (pss_one (ps_ret pe_bl)) pss_nil)))
      (pss_one (ps_ret (pe_and (pe_cmpR op_eq (pe_call gT hr2 (by rfl) T.turned.mg T.turned.F.kp T.turned.b .nil pass0 (pa_cons (pv 5) (pa_cons pe_int pa_nil))) pe_str (nomark _))
        (pe_one (pe_callG gA hg hr1 (by rfl) T.alike.mg T.alike.F.kp T.alike.b pass0 (pa_cons (pe_call gF hr3 (by rfl) T.face.mg T.face.F.kp T.face.b .nil pass0 (pa_cons (pv 0) pa_nil)) (pa_cons (pe_ix ix_list (pv 3) pe_int (fun _ _ => rfl)) pa_nil)))))))))), ?_⟩
    have hle := G.le
    have hve := G.lve
    have hvf := G.lvf
    refine ⟨_, rfl, pe, ve, rfl, .inl (SqL.of G.pe), _, rfl, by omega, by omega, ?_⟩
    refine for_range (lo := 0) (n := (Int.toNat (ve.length : Int))) (fun i σ H' => (∃ x y, σ = [some (.ref k.p), some (.ref f.p), some (.ref pe), some (.ref pf), x, y]) ∧ Kp k.ops H H' ∧ At T M H' k s es (es.length - i)) ⟨⟨_, _, rfl⟩, Kp.refl, hk⟩ (fun i σ H' hi z => ?_) (fun σ H' z => ?_)
    · obtain ⟨⟨x, y, rfl⟩, kp, hA⟩ := z
      have hi : i < es.length := by simpa [hve] using hi
      obtain ⟨j, hj⟩ : ∃ j, es.length - i = j + 1 := ⟨es.length - i - 1, by omega⟩
      rw [hj] at hA
      have hjn : j < es.length := by omega
      have G1 := G.kp kp hk.mo ne npf
      refine ⟨_, rfl, ?_⟩
      try unfold tCons tC tNil
      refine sp_back (T := T) G1.dom hA (by omega) fun H1 v k1 hv hA1 => ?_
      have kp1 := kp.trans k1
      have G2 := G.kp kp1 hk.mo ne npf
      obtain ⟨v2, e2, hv2⟩ := G2.edit hjn
      refine ⟨_, rfl, _, rfl, _, rfl, _, _, rfl, rfl, pe, ve, _, v2, rfl, rfl, SqL.of G2.pe, atI_back (k := i) (by omega) (by rw [hve, show es.length - 1 - i = j by omega]; exact e2) (by simp), ?_⟩
      have os := ed_shaped (G.oe _ (List.getElem_mem hjn))
      refine ⟨_, _, dp_up hide_sub hv, hv2, os, os, _, rfl, ?_⟩
      rw [ed_eqv]
      refine cF rfl ?_
      refine ⟨_, rfl, ?_⟩
      try unfold tCons tC tNil
      refine sp_face (T := T) G2.dom hA1 (by omega) fun H2 p s2 np hp => ?_
      have kp2 := kp1.snd s2
      have G3 := G.kp kp2 hk.mo ne npf
      obtain ⟨v3, e3, hv3⟩ := G3.face (j := j) (by omega)
      refine ⟨_, rfl, _, rfl, _, rfl, _, _, rfl, rfl, pf, vf, _, v3, rfl, rfl, SqL.of G3.pf, atI_back (k := i + 1) (by omega) (by rw [hvf, show es.length + 1 - 1 - (i + 1) = j by omega]; exact e3) (by simp; omega), ?_⟩
      try unfold tCons tC tNil
      refine sp_alike (dp_up hide_sub hp) hv3 G.os G.oe G.le ⟨true, rfl, iteF ?_⟩
      refine ⟨⟨_, _, rfl⟩, kp2, ?_⟩
      rw [show es.length - (i + 1) = j by omega]
      exact hA1.same s2
    · obtain ⟨⟨x, y, rfl⟩, kp, hA⟩ := z
      have hA : At T M H' k s es 0 := by
        have e : es.length - (Int.toNat (ve.length : Int)) = 0 := by simp [hve]
        rw [e] at hA
        exact hA
      have G1 := G.kp kp hk.mo ne npf
      refine ⟨_, rfl, ?_⟩
      try unfold tCons tC tNil
      refine sp_back0 (T := T) G1.dom hA fun H1 s1 => ?_
      refine ⟨rfl, _, rfl, cF (by decide +kernel) ?_⟩
      have kp1 := kp.snd s1
      have hA1 := hA.same s1
      have hf1 := hf.kp kp1 hk.mo nf
      obtain ⟨dx, hob⟩ := hA1.ob
      refine ⟨_, rfl, _, rfl, k.p, dx, _, .ref T.book.C, rfl, hob, tyBook hf1, T.nf1, ?_⟩
      try unfold tCons tC tNil
      refine sp_eq (T := T) hA1.bk hf1 (okTake G.oe 0) (by intro e he; cases he) G.o9 G.o9 fun H2 s2 => ?_
      refine ⟨true, ?_, _, rfl, cF rfl ?_⟩
      · rw [decide_eq_true (show es.take 0 = [] ∧ s = s from ⟨rfl, rfl⟩)]
      have kp2 := kp1.snd s2
      have hA2 := hA1.same s2
      have G2 := G.kp kp2 hk.mo ne npf
      -- the copy
      obtain ⟨dx2, hob2⟩ := hA2.ob
      refine ⟨_, rfl, k.p, dx2, _, rfl, hob2, noCopied, ?_⟩
      try unfold tCons tC tNil
      refine sp_copied (T := T) G2.dom hA2 fun H3 o s3 fr hO => ?_
      have G3 := G2.new s3 fr hO.bk.dom
      refine ⟨_, rfl, pe, ve, rfl, .inl (SqL.of G3.pe), _, rfl, by omega, by omega, ?_⟩
      have nO : ∀ a ∈ o.ops, H2 a = none := fun a ha => fr a (ops_fp a ha)
      have npe : pe ∉ o.ops := fun z => ne_of_none G2.pe (nO _ z) rfl
      have npf' : pf ∉ o.ops := fun z => ne_of_none G2.pf (nO _ z) rfl
      refine for_range (lo := 0) (n := (Int.toNat (ve.length : Int))) (fun i σ H' => (∃ x, σ = [some (.ref k.p), some (.ref f.p), some (.ref pe), some (.ref pf), x, some (.ref o.p)]) ∧ Kp o.ops H3 H' ∧ At T (o.fp ++ M) H' o s es i) ⟨⟨_, rfl⟩, Kp.refl, hO⟩ (fun i σ H' hi z => ?_) (fun σ H' z => ?_)
      · obtain ⟨⟨x, rfl⟩, kpo, hA⟩ := z
        have hi : i < es.length := by simpa [hve] using hi
        have G4 := G3.kp kpo hO.mo npe npf'
        refine ⟨_, rfl, ?_⟩
        try unfold tCons tC tNil
        refine sp_again (T := T) G4.dom hA hi (by omega) fun H4 v k4 hv hA4 => ?_
        have kpo4 := kpo.trans k4
        have G5 := G3.kp kpo4 hO.mo npe npf'
        obtain ⟨v2, e2, hv2⟩ := G5.edit hi
        refine ⟨_, rfl, _, rfl, pe, ve, _, v2, rfl, rfl, SqL.of G5.pe, by rw [Int.zero_add]; exact atI_nat e2, ?_⟩
        have os := ed_shaped (G.oe _ (List.getElem_mem hi))
        refine ⟨_, _, dp_up hide_sub hv, hv2, os, os, _, rfl, ?_⟩
        rw [ed_eqv]
        refine cF rfl ?_
        refine ⟨_, rfl, ?_⟩
        try unfold tCons tC tNil
        refine sp_face (T := T) G5.dom hA4 (by omega) fun H5 p s5 np hp => ?_
        have kpo5 := kpo4.snd s5
        have G6 := G3.kp kpo5 hO.mo npe npf'
        obtain ⟨v3, e3, hv3⟩ := G6.face (j := i + 1) hi
        refine ⟨_, rfl, _, rfl, _, _, rfl, rfl, pf, vf, _, v3, rfl, rfl, SqL.of G6.pf, ?_, ?_⟩
        · rw [Int.zero_add]
          exact atI_nat (j := i + 1) e3
        try unfold tCons tC tNil
        refine sp_alike (dp_up hide_sub hp) hv3 G.os G.oe G.le ⟨true, rfl, iteF ?_⟩
        exact ⟨⟨_, rfl⟩, kpo5, hA4.same s5⟩
      · obtain ⟨⟨x, rfl⟩, kpo, hA⟩ := z
        have hA : At T (o.fp ++ M) H' o s es es.length := by
          have e : (Int.toNat (ve.length : Int)) = es.length := by simp [hve]
          rw [e] at hA
          exact hA
        have G4 := G3.kp kpo hO.mo npe npf'
        refine ⟨_, rfl, ?_⟩
        try unfold tCons tC tNil
        refine sp_again_end (T := T) G4.dom hA.end_ fun H4 s4 => ?_
        refine ⟨rfl, true, ?_, ?_⟩
        · show V.bl (decide _) = V.bl true
          rw [decide_eq_true rfl]
        refine iteT ?_
        have kpo4 := kpo.snd s4
        have s24 : Same H2 H4 := fun a o' e => kpo4.at (fun z => by rw [nO a z] at e; cases e) (s3 _ _ e)
        have G5 := G2.same s24
        have hA5 := hA2.same s24
        refine ⟨_, rfl, ?_⟩
        try unfold tCons tC tNil
        refine sp_face (T := T) G5.dom hA5 (by omega) fun H5 p s5 np hp => ?_
        have G6 := G5.same s5
        obtain ⟨v3, e3, hv3⟩ := G6.face (j := 0) (Nat.zero_le _)
        refine ⟨_, rfl, pf, vf, _, v3, rfl, rfl, SqL.of G6.pf, atI_nat (j := 0) e3, ?_⟩
        try unfold tCons tC tNil
        refine sp_alike (dp_up hide_sub hp) hv3 G.os G.oe G.le ?_
        exact q H5 ((kp2.snd s24).snd s5) (hA5.same s5)
end
end Bk

/-! The walks: copies, and the last. -/
namespace Bk
open PySem L2 L2.BK

section
variable {P : Program} {w : World} {K : PySem.W.Frag} {mg : Str → Option Value} {base : Heap} (T : Txt P w K mg)
def spCopyR : Sp := fun vs H Q _ => ∃ M s es f k pe pf ve vf, ∃ j : Nat, vs = [.ref k.p, .ref f.p, .ref pe, .ref pf, .int j] ∧ Given K M H s es pe pf ve vf ∧ BookAt T M H f (trail s []) [] [] ∧ At T M H k s es j ∧ j < es.length ∧
  ∀ H', Same H H' → Q (.bl true) H'
def spLastR : Sp := fun vs H Q _ => ∃ M s es k pe pf ve vf, ∃ j : Nat, vs = [.ref k.p, .ref pe, .ref pf, .int j] ∧ Given K M H s es pe pf ve vf ∧ At T M H k s es j ∧ j < es.length ∧ pe ∉ k.ops ∧ pf ∉ k.ops ∧
  ∀ H', Kp k.ops H H' → Q (.bl true) H'
variable {T}
theorem At.new {F M : List Addr} {H H' : Hp} {b : Bks} {s : Stt} {es : List Ed} {j : Nat} (h : At T M H b s es j) (k : Same H H') (fr : ∀ a ∈ F, H a = none) : At T (F ++ M) H' b s es j :=
  h.up (fun a _ o e => k a o e) (hide_new_up k fr) fun a ha => List.mem_append_right _ (h.bk.mem a ha)
theorem BookAt.new {F M : List Addr} {H H' : Hp} {b : Bks} {sts : List Stt} {eds : List Ed} {und : List (Ed × Stt)} (h : BookAt T M H b sts eds und) (k : Same H H') (fr : ∀ a ∈ F, H a = none) : BookAt T (F ++ M) H' b sts eds und :=
  h.up (fun a _ o e => k a o e) (hide_new_up k fr) fun a ha => List.mem_append_right _ (h.mem a ha)
theorem At.okE {M : List Addr} {H : Hp} {b : Bks} {s : Stt} {es : List Ed} {j : Nat} (h : At T M H b s es j) (o : okEds es) : okEds (es.take j) := okTake o j
theorem okPut : okEd (.put (5, 6)) := ⟨by decide, by unfold Big; decide, by unfold Big; decide⟩
theorem two_len {es : List Ed} {j : Nat} {e : Ed} : es.take j ++ [e] ≠ es.take j := fun z => by
  have := congrArg List.length z
  rw [List.length_append] at this
  simp at this
variable (T)

theorem sc_copyR : FnScope ["_law_book", "_law_first", "_law_edits_here", "_law_faces", "_law_spot", "_law_near", "_law_far", "_law_k"] ["_law_book", "_law_first", "_law_edits_here", "_law_faces", "_law_spot"] (defScope s_copyR) := ⟨rfl, rfl, rfl, by decide +kernel, rfl, by decide +kernel, by decide +kernel⟩
theorem ok_copyR : FnG P w K mg base CX0 6 T.copyR.f T.copyR.fd ["_law_book", "_law_first", "_law_edits_here", "_law_faces", "_law_spot"] (spCopyR T) := by
  refine fun_okG T.copyR.F sc_copyR (fun vs H Q E h => ?_) (fun cdv A outer sh H vs Q E hg hr h => ?_)
  · obtain ⟨M, s, es, f, k, pe, pf, ve, vf, j, rfl, _⟩ := h
    rfl
  · obtain ⟨M, s, es, f, k, pe, pf, ve, vf, j, rfl, G, hf, hk, hj, q⟩ := h
    have gT : FnOk P w K mg base CX0 2 T.turned.f T.turned.fd ["_law_book", "_law_way"] (spTurned T) := ok_turned T
    have gF : FnOk P w K mg base CX0 3 T.face.f T.face.fd ["_law_book"] (spFace T) := ok_face T
    have gA : FnG P w K mg base CX0 1 T.alike.f T.alike.fd ["_law_found", "_law_due"] (spAlike K) := ok_alike T
    have gE : FnOk P w K mg base CX0 4 T.bEq.f T.bEq.fd ["self", "other"] (spBEq T) := ok_bEq T
    have gC : FnOk P w K mg base CX0 3 T.bCopied.f T.bCopied.fd ["self"] (spBCopied T) := ok_bCopied T
    have hr2 : Room 2 _ := hr.mono (by decide)
    have hr3 : Room 3 _ := hr.mono (by decide)
    have hr1 : Room 1 _ := hr.mono (by decide)
    refine ⟨_, pss_cons (ps_par (i := 5) (j := 6) rfl sc_copyR.nd rfl rfl (by decide) rfl rfl (pa_cons (pe_meth0 (pv 0) T.book.cl T.bCopied.m gC hr3 T.bCopied.b .nil pass0) (pa_cons (pe_meth0 (pv 0) T.book.cl T.bCopied.m gC hr3 T.bCopied.b .nil pass0) pa_nil)) (by rfl))
      (pss_cons (ps_if (PW.pt (pw_or (pt_cmpR (op_ne_own gE hr T.bEq.b pass0 T.bEq.m T.ne1 T.book.ob) (pv 5) (pv 0) (nomark _))
            (pw_or1 (pt_not (pt_val (pe_callG gA hg hr1 (by rfl) T.alike.mg T.alike.F.kp T.alike.b pass0 (pa_cons (pe_call gF hr3 (by rfl) T.face.mg T.face.F.kp T.face.b .nil pass0 (pa_cons (pv 5) pa_nil)) (pa_cons (pe_ix ix_list (pv 3) (pv 4) (fun _ _ => rfl)) pa_nil))))))))
          (pss_one (ps_ret pe_bl)) pss_nil)
      (pss_cons (ps_for (passes_of rfl) rfl (pi_range1 (by rfl) T.n_range (pa_cons (pv 4) pa_nil)) (pg_name (i := 7) sc_copyR.nd rfl (Or.inl rfl))
        (pss_one (ps_if (PW.pt (pw_or (pt_cmpR (op_neD hr.units) (pe_call gT hr2 (by rfl) T.turned.mg T.turned.F.kp T.turned.b .nil pass0 (pa_cons (pv 5) (pa_cons pe_int pa_nil))) (pe_ix ix_list (pv 2) (pe_op op_sub (pe_op op_sub (pv 4) pe_int) (pv 7)) (fun _ _ => rfl)) (nomark _))
            (pw_or1 (pt_not (pt_val (pe_callG gA hg hr1 (by rfl) T.alike.mg T.alike.F.kp T.alike.b pass0 (pa_cons (pe_call gF hr3 (by rfl) T.face.mg T.face.F.kp T.face.b .nil pass0 (pa_cons (pv 5) pa_nil)) (pa_cons (pe_ix ix_list (pv 3) (pe_op op_sub (pe_op op_sub (pv 4) pe_int) (pv 7)) (fun _ _ => rfl)) pa_nil))))))))
          (pss_one (ps_ret pe_bl)) pss_nil)))
      (pss_cons (ps_if (PW.pt (pw_or (pt_cmpR op_ne (pe_call gT hr2 (by rfl) T.turned.mg T.turned.F.kp T.turned.b .nil pass0 (pa_cons (pv 5) (pa_cons pe_int pa_nil))) pe_str (nomark _))
            (pw_or1 (pt_cmpR (op_ne_own gE hr T.bEq.b pass0 T.bEq.m T.ne1 T.book.ob) (pv 5) (pv 1) (nomark _))))) (pss_one (ps_ret pe_bl)) pss_nil)
      (pss_cons (ps_if (PW.pt (pw_or (pt_cmpR (op_neD hr.units) (pe_call gT hr2 (by rfl) T.turned.mg T.turned.F.kp T.turned.b .nil pass0 (pa_cons (pv 6) (pa_cons pe_int pa_nil))) (pe_ix ix_list (pv 2) (pv 4) (fun _ _ => rfl)) (nomark _))
            (pw_or1 (pt_not (pt_val (pe_callG gA hg hr1 (by rfl) T.alike.mg T.alike.F.kp T.alike.b pass0 (pa_cons (pe_call gF hr3 (by rfl) T.face.mg T.face.F.kp T.face.b .nil pass0 (pa_cons (pv 6) pa_nil)) (pa_cons (pe_ix ix_list (pv 3) (pe_op op_add (pv 4) pe_int) (fun _ _ => rfl)) pa_nil))))))))
          (pss_one (ps_ret pe_bl)) pss_nil)
      (pss_one (ps_ret (pe_callG gA hg hr1 (by rfl) T.alike.mg T.alike.F.kp T.alike.b pass0 (pa_cons (pe_call gF hr3 (by rfl) T.face.mg T.face.F.kp T.face.b .nil pass0 (pa_cons (pv 0) pa_nil)) (pa_cons (pe_ix ix_list (pv 3) (pv 4) (fun _ _ => rfl)) pa_nil))))))))), ?_⟩
    have hle := G.le
    have hve := G.lve
    have hvf := G.lvf
    -- the two copies
    obtain ⟨dx, hob⟩ := hk.ob
    refine ⟨_, rfl, k.p, dx, _, rfl, hob, noCopied, ?_⟩
    try unfold tCons tC tNil
    refine sp_copied (T := T) G.dom hk fun H1 n s1 fr1 hN1 => ?_
    have G1 := G.new s1 fr1 hN1.bk.dom
    have hk1 := hk.new (F := n.fp) s1 fr1
    have hf1 := hf.new (F := n.fp) s1 fr1
    refine ⟨_, rfl, k.p, dx, _, rfl, s1 _ _ hob, noCopied, ?_⟩
    try unfold tCons tC tNil
    refine sp_copied (T := T) G1.dom hk1 fun H2 r s2 fr2 hR => ?_
    have G2 := G1.new s2 fr2 hR.bk.dom
    have hk2 := hk1.new (F := r.fp) s2 fr2
    have hf2 := hf1.new (F := r.fp) s2 fr2
    have hN := hN1.new (F := r.fp) s2 fr2
    have s02 := s1.trans s2
    have nN : ∀ a ∈ n.ops, H a = none := fun a ha => fr1 a (ops_fp a ha)
    have nR : ∀ a ∈ r.ops, H a = none := fun a ha => s1.free (fr2 a (ops_fp a ha))
    have npe : pe ∉ n.ops := fun z => ne_of_none G.pe (nN _ z) rfl
    have npf : pf ∉ n.ops := fun z => ne_of_none G.pf (nN _ z) rfl
    have npe' : pe ∉ r.ops := fun z => ne_of_none G.pe (nR _ z) rfl
    have npf' : pf ∉ r.ops := fun z => ne_of_none G.pf (nR _ z) rfl
    have nNr : ∀ a ∈ n.ops, a ∉ r.fp := fun a ha z => by
      obtain ⟨o, e⟩ := hN1.bk.dom a (ops_fp a ha)
      rw [fr2 a z] at e
      cases e
    have nNf : ∀ a ∈ n.ops, a ∉ f.fp := fun a ha z => by
      obtain ⟨o, e⟩ := hf.dom a z
      rw [nN a ha] at e
      cases e
    have nNk : ∀ a ∈ n.ops, a ∉ k.fp := fun a ha z => by
      obtain ⟨o, e⟩ := hk.bk.dom a z
      rw [nN a ha] at e
      cases e
    have nRk : ∀ a ∈ r.ops, a ∉ k.fp := fun a ha z => by
      obtain ⟨o, e⟩ := hk.bk.dom a z
      rw [nR a ha] at e
      cases e
    have mN := hN.mo
    have mR := hR.mo
    refine ⟨_, _, rfl, ?_⟩
    -- near as the book
    obtain ⟨dn, hon⟩ := hN.ob
    refine ⟨_, rfl, _, rfl, n.p, dn, _, .ref T.book.C, rfl, hon, tyBook hk2.bk, T.nf1, ?_⟩
    try unfold tCons tC tNil
    refine sp_eq (T := T) hN.bk hk2.bk (okTake G.oe j) (okTake G.oe j) G.o9 G.o9 fun H3 s3 => ?_
    refine ⟨true, by rw [decide_eq_true (show es.take j = es.take j ∧ s = s from ⟨rfl, rfl⟩)], _, rfl, cF rfl ?_⟩
    have G3 := G2.same s3
    refine ⟨_, rfl, ?_⟩
    try unfold tCons tC tNil
    refine sp_face (T := T) G3.dom (hN.same s3) (by omega) fun H4 p s4 np hp => ?_
    have s24 := s3.trans s4
    have G4 := G2.same s24
    obtain ⟨v3, e3, hv3⟩ := G4.face (j := j) (by omega)
    refine ⟨_, rfl, _, rfl, pf, vf, _, v3, rfl, rfl, SqL.of G4.pf, atI_nat e3, ?_⟩
    try unfold tCons tC tNil
    refine sp_alike (dp_up hide_sub hp) hv3 G.os G.oe G.le ⟨true, rfl, iteF ?_⟩
    have hN4 := hN.same s24
    have hR4 := hR.same s24
    have hk4 := hk2.same s24
    have hf4 := hf2.same s24
    -- near turned back
    refine ⟨_, rfl, _, rfl, by omega, by omega, ?_⟩
    refine for_range (lo := 0) (n := (Int.toNat (j : Int))) (fun i σ H' => (∃ x, σ = [some (.ref k.p), some (.ref f.p), some (.ref pe), some (.ref pf), some (.int j), some (.ref n.p), some (.ref r.p), x]) ∧ Kp n.ops H4 H' ∧ At T (r.fp ++ (n.fp ++ M)) H' n s es (j - i)) ⟨⟨_, rfl⟩, Kp.refl, hN4⟩ (fun i σ H' hi z => ?_) (fun σ H' z => ?_)
    · obtain ⟨⟨x, rfl⟩, kp, hA⟩ := z
      have hi : i < j := by simpa using hi
      obtain ⟨t, ht⟩ : ∃ t, j - i = t + 1 := ⟨j - i - 1, by omega⟩
      rw [ht] at hA
      have htn : t < es.length := by omega
      have G5 := G4.kp kp mN npe npf
      refine ⟨_, rfl, ?_⟩
      try unfold tCons tC tNil
      refine sp_back (T := T) G5.dom hA (by omega) fun H5 v k5 hv hA5 => ?_
      have kp5 := kp.trans k5
      have G6 := G4.kp kp5 mN npe npf
      obtain ⟨v2, e2, hv2⟩ := G6.edit htn
      have ei : (j : Int) - 1 - (0 + (i : Int)) = ((t : Nat) : Int) := by omega
      refine ⟨_, rfl, _, rfl, _, _, rfl, rfl, _, rfl, _, _, rfl, rfl, pe, ve, _, v2, rfl, rfl, SqL.of G6.pe, by rw [ei]; exact atI_nat e2, ?_⟩
      have os := ed_shaped (G.oe _ (List.getElem_mem htn))
      refine ⟨_, _, dp_up hide_sub hv, hv2, os, os, _, rfl, ?_⟩
      rw [ed_eqv]
      refine cF rfl ?_
      refine ⟨_, rfl, ?_⟩
      try unfold tCons tC tNil
      refine sp_face (T := T) G6.dom hA5 (by omega) fun H6 p s6 np hp => ?_
      have kp6 := kp5.snd s6
      have G7 := G4.kp kp6 mN npe npf
      obtain ⟨v3, e3, hv3⟩ := G7.face (j := t) (by omega)
      refine ⟨_, rfl, _, rfl, _, _, rfl, rfl, _, rfl, _, _, rfl, rfl, pf, vf, _, v3, rfl, rfl, SqL.of G7.pf, by rw [ei]; exact atI_nat e3, ?_⟩
      try unfold tCons tC tNil
      refine sp_alike (dp_up hide_sub hp) hv3 G.os G.oe G.le ⟨true, rfl, iteF ?_⟩
      refine ⟨⟨_, rfl⟩, kp6, ?_⟩
      rw [show j - (i + 1) = t by omega]
      exact hA5.same s6
    · obtain ⟨⟨x, rfl⟩, kp, hA⟩ := z
      have hA : At T (r.fp ++ (n.fp ++ M)) H' n s es 0 := by
        have e : j - (Int.toNat (j : Int)) = 0 := by simp
        rw [e] at hA
        exact hA
      have G5 := G4.kp kp mN npe npf
      refine ⟨_, rfl, ?_⟩
      try unfold tCons tC tNil
      refine sp_back0 (T := T) G5.dom hA fun H5 s5 => ?_
      refine ⟨rfl, _, rfl, cF (by decide +kernel) ?_⟩
      have kp5 := kp.snd s5
      have hA5 := hA.same s5
      have hf5 := hf4.kp kp5 mN nNf
      obtain ⟨dn5, hon5⟩ := hA5.ob
      refine ⟨_, rfl, _, rfl, n.p, dn5, _, .ref T.book.C, rfl, hon5, tyBook hf5, T.nf1, ?_⟩
      try unfold tCons tC tNil
      refine sp_eq (T := T) hA5.bk hf5 (okTake G.oe 0) (by intro e he; cases he) G.o9 G.o9 fun H6 s6 => ?_
      refine ⟨true, by rw [decide_eq_true (show es.take 0 = [] ∧ s = s from ⟨rfl, rfl⟩)], _, rfl, cF rfl ?_⟩
      have kp6 := kp5.snd s6
      have G6 := G4.kp kp6 mN npe npf
      have hR6 := hR4.kp kp6 mN nNr
      -- far again
      refine ⟨_, rfl, ?_⟩
      try unfold tCons tC tNil
      refine sp_again (T := T) G6.dom hR6 hj (by omega) fun H7 v k7 hv hR7 => ?_
      have G7 := G6.kp k7 mR npe' npf'
      obtain ⟨v2, e2, hv2⟩ := G7.edit hj
      refine ⟨_, rfl, _, rfl, pe, ve, _, v2, rfl, rfl, SqL.of G7.pe, atI_nat e2, ?_⟩
      have os := ed_shaped (G.oe _ (List.getElem_mem hj))
      refine ⟨_, _, dp_up hide_sub hv, hv2, os, os, _, rfl, ?_⟩
      rw [ed_eqv]
      refine cF rfl ?_
      refine ⟨_, rfl, ?_⟩
      try unfold tCons tC tNil
      refine sp_face (T := T) G7.dom hR7 (by omega) fun H8 p s8 np hp => ?_
      have G8 := G7.same s8
      obtain ⟨v3, e3, hv3⟩ := G8.face (j := j + 1) hj
      refine ⟨_, rfl, _, rfl, _, _, rfl, rfl, pf, vf, _, v3, rfl, rfl, SqL.of G8.pf, atI_nat (j := j + 1) e3, ?_⟩
      try unfold tCons tC tNil
      refine sp_alike (dp_up hide_sub hp) hv3 G.os G.oe G.le ⟨true, rfl, iteF ?_⟩
      -- the book
      have hk8 := ((hk4.kp kp6 mN nNk).kp k7 mR nRk).same s8
      refine ⟨_, rfl, ?_⟩
      try unfold tCons tC tNil
      refine sp_face (T := T) G8.dom hk8 (by omega) fun H9 p s9 np hp => ?_
      have G9 := G8.same s9
      obtain ⟨v4, e4, hv4⟩ := G9.face (j := j) (by omega)
      refine ⟨_, rfl, _, rfl, pf, vf, _, v4, rfl, rfl, SqL.of G9.pf, atI_nat e4, ?_⟩
      try unfold tCons tC tNil
      refine sp_alike (dp_up hide_sub hp) hv4 G.os G.oe G.le ?_
      refine q H9 fun a o e => ?_
      refine (s8.trans s9) _ _ (k7.at (fun z => by rw [nR a z] at e; cases e) (kp6.at (fun z => by rw [nN a z] at e; cases e) ((s02.trans s24) _ _ e)))

theorem sc_lastR : FnScope ["_law_book", "_law_edits_here", "_law_faces", "_law_spot", "_law_last", "_law_still"] ["_law_book", "_law_edits_here", "_law_faces", "_law_spot"] (defScope s_lastR) := ⟨rfl, rfl, rfl, by decide +kernel, rfl, by decide +kernel, by decide +kernel⟩
theorem ok_lastR : FnG P w K mg base CX0 11 T.lastR.f T.lastR.fd ["_law_book", "_law_edits_here", "_law_faces", "_law_spot"] (spLastR T) := by
  refine fun_okG T.lastR.F sc_lastR (fun vs H Q E h => ?_) (fun cdv A outer sh H vs Q E hg hr h => ?_)
  · obtain ⟨M, s, es, k, pe, pf, ve, vf, j, rfl, _⟩ := h
    rfl
  · obtain ⟨M, s, es, k, pe, pf, ve, vf, j, rfl, G, hk, hj, npe, npf, q⟩ := h
    have gT : FnOk P w K mg base CX0 2 T.turned.f T.turned.fd ["_law_book", "_law_way"] (spTurned T) := ok_turned T
    have gF : FnOk P w K mg base CX0 3 T.face.f T.face.fd ["_law_book"] (spFace T) := ok_face T
    have gA : FnG P w K mg base CX0 1 T.alike.f T.alike.fd ["_law_found", "_law_due"] (spAlike K) := ok_alike T
    have gE : FnOk P w K mg base CX0 4 T.bEq.f T.bEq.fd ["self", "other"] (spBEq T) := ok_bEq T
    have gC : FnOk P w K mg base CX0 3 T.bCopied.f T.bCopied.fd ["self"] (spBCopied T) := ok_bCopied T
    have gD : FnOk P w K mg base CX0 10 T.bDo.f T.bDo.fd ["self", "edit"] (spBDo T) := ok_bDo T
    have hr2 : Room 2 _ := hr.mono (by decide)
    have hr3 : Room 3 _ := hr.mono (by decide)
    have hr4 : Room 4 _ := hr.mono (by decide)
    have hr1 : Room 1 _ := hr.mono (by decide)
    refine ⟨_, pss_cons (ps_set (i := 4) sc_lastR.nd rfl (Or.inl rfl) (pe_meth0 (pv 0) T.book.cl T.bCopied.m gC hr3 T.bCopied.b .nil pass0))
      (pss_cons (ps_expr (pe_meth (pv 4) T.book.cl T.bDo.m gD hr T.bDo.b .nil pass0 (pa_cons (pe_tup (pa_cons pe_str (pa_cons (pe_tup (pa_cons pe_int (pa_cons pe_int pa_nil))) pa_nil))) pa_nil)))
      (pss_cons (ps_if (PW.pt (pw_or (pt_cmpR op_ne (pe_call gT hr2 (by rfl) T.turned.mg T.turned.F.kp T.turned.b .nil pass0 (pa_cons (pv 4) (pa_cons pe_int pa_nil))) pe_str (nomark _))
            (pw_or (pt_cmpR (op_eq_own gE hr4 T.bEq.b pass0 T.bEq.m) (pv 4) (pv 0) (nomark _))
            (pw_or1 (pt_not (pt_val (pe_callG gA hg hr1 (by rfl) T.alike.mg T.alike.F.kp T.alike.b pass0 (pa_cons (pe_call gF hr3 (by rfl) T.face.mg T.face.F.kp T.face.b .nil pass0 (pa_cons (pv 0) pa_nil)) (pa_cons (pe_ix ix_list (pv 2) (pv 3) (fun _ _ => rfl)) pa_nil)))))))))
          (pss_one (ps_ret pe_bl)) pss_nil)
      (pss_cons (ps_set (i := 5) sc_lastR.nd rfl (Or.inl rfl) (pe_meth0 (pv 0) T.book.cl T.bCopied.m gC hr3 T.bCopied.b .nil pass0))
      (pss_cons (ps_if (PW.pt (pw_or (pt_cmpR (op_neD hr.units) (pe_call gT hr2 (by rfl) T.turned.mg T.turned.F.kp T.turned.b .nil pass0 (pa_cons (pv 0) (pa_cons pe_int pa_nil))) (pe_ix ix_list (pv 1) (pv 3) (fun _ _ => rfl)) (nomark _))
            (pw_or1 (pt_not (pt_val (pe_callG gA hg hr1 (by rfl) T.alike.mg T.alike.F.kp T.alike.b pass0 (pa_cons (pe_call gF hr3 (by rfl) T.face.mg T.face.F.kp T.face.b .nil pass0 (pa_cons (pv 0) pa_nil)) (pa_cons (pe_ix ix_list (pv 2) (pe_op op_add (pv 3) pe_int) (fun _ _ => rfl)) pa_nil))))))))
          (pss_one (ps_ret pe_bl)) pss_nil)
      (pss_one (ps_ret (pe_and (pe_callG gA hg hr1 (by rfl) T.alike.mg T.alike.F.kp T.alike.b pass0 (pa_cons (pe_call gF hr3 (by rfl) T.face.mg T.face.F.kp T.face.b .nil pass0 (pa_cons (pv 5) pa_nil)) (pa_cons (pe_ix ix_list (pv 2) (pv 3) (fun _ _ => rfl)) pa_nil)))
        (pe_one (pe_cmpR (op_eqD hr.units) (pe_call gT hr2 (by rfl) T.turned.mg T.turned.F.kp T.turned.b .nil pass0 (pa_cons (pv 5) (pa_cons pe_int pa_nil))) (pe_ix ix_list (pv 1) (pv 3) (fun _ _ => rfl)) (nomark _)))))))))), ?_⟩
    have hle := G.le
    have hve := G.lve
    have hvf := G.lvf
    obtain ⟨dx, hob⟩ := hk.ob
    refine ⟨_, rfl, k.p, dx, _, rfl, hob, noCopied, ?_⟩
    try unfold tCons tC tNil
    refine sp_copied (T := T) G.dom hk fun H1 l s1 fr1 hL => ?_
    have G1 := G.new s1 fr1 hL.bk.dom
    obtain ⟨dl, hol⟩ := hL.ob
    refine ⟨_, rfl, l.p, dl, _, rfl, hol, noDo, ?_⟩
    refine ⟨by show 2 ≤ sizeLine; decide, fun t1 n1 => ⟨by show 2 ≤ sizeLine; decide, fun t2 n2 => ?_⟩⟩
    have sa : Same H1 (upd H1 t1 (.tup [.int 5, .int 6])) := same_upd (Same.refl H1) n1
    have s2 : Same H1 (upd (upd H1 t1 (.tup [.int 5, .int 6])) t2 (.tup [.str "put", .ref t1])) := same_upd sa n2
    have hd2 : Dp K (hide (l.fp ++ M) (upd (upd H1 t1 (.tup [.int 5, .int 6])) t2 (.tup [.str "put", .ref t1]))) (.ref t2) (edD (.put (5, 6))) := by
      refine .tup (SqT.of (hide_get (hide_new G1.dom (sa.free n2)) upd_same)) (.cons (.str _) (.cons (bow_mk (b := (5, 6)) (SqT.of (hide_get (hide_new G1.dom n1) ?_))) .nil))
      rw [upd_ne (ne_of_none upd_same n2)]
      exact upd_same
    generalize upd (upd H1 t1 (.tup [.int 5, .int 6])) t2 (.tup [.str "put", .ref t1]) = H2 at s2 hd2
    have hL2 := hL.same s2
    have G2 := G1.same s2
    have B2 := hL2.bk
    rw [trail_last] at B2
    have ltk : (es.take j).length = j := by rw [List.length_take]; omega
    refine ⟨l.fp ++ M, l, _, _, _, _, _, .put (5, 6), rfl, G2.dom, B2, .inl hd2, okPut, okSt_mono (okJ G.os G.oe G.le j).1 (by decide), by rw [List.length_map, List.length_range]; omega, by omega, fun H3 lu nlu kp B3 => ?_⟩
    rw [← trail_last, ← trail_snoc] at B3
    have s03 : Same H H3 := fun a o e => kp.at (fun z => by
      have z' : a ∈ l.fp := by
        simp only [Bks.fp, List.mem_cons, List.not_mem_nil, or_false] at z ⊢
        rcases z with z | z | z
        · exact .inl z
        · exact .inr (.inl z)
        · exact .inr (.inr (.inl z))
      rw [fr1 a z'] at e
      cases e) (s2 _ _ (s1 _ _ e))
    have G3 := G.same s03
    have hk3 := hk.same s03
    have dB : Dom (lu :: (l.fp ++ M)) H3 := by
      refine .cons B3.un.choose_spec.1 fun a ha => ?_
      rcases List.mem_append.mp ha with z | z
      · have z' : a = l.p ∨ a = l.ls ∨ a = l.le ∨ a = l.lu := by simpa [Bks.fp] using z
        exact kp.live a _ (hL2.bk.dom a z).choose_spec
      · exact G3.dom a z
    refine ⟨_, rfl, ?_⟩
    try unfold tCons tC tNil
    refine sp_again_end (T := T) (b := { l with lu := lu }) dB B3 fun H4 s4 => ?_
    refine ⟨rfl, _, rfl, cF (by decide +kernel) ?_⟩
    have B4 := B3.same s4
    have s04 := s03.trans s4
    have hk4 := hk.same s04
    obtain ⟨dl4, hol4⟩ := B4.ob
    refine ⟨_, rfl, _, rfl, l.p, dl4, _, .ref T.book.C, rfl, hol4, tyBook hk4.bk, T.nf1, ?_⟩
    try unfold tCons tC tNil
    refine sp_eq (T := T) (b := { l with lu := lu }) B4 hk4.bk (fun e he => ?_) (okTake G.oe j) G.o9 G.o9 fun H5 s5 => ?_
    · rcases List.mem_append.mp he with z | z
      · exact okTake G.oe j e z
      · rw [List.mem_singleton.mp z]; exact okPut
    refine ⟨_, rfl, cF (decide_eq_false fun z => two_len z.1) ?_⟩
    have s05 := s04.trans s5
    have G5 := G.same s05
    refine ⟨_, rfl, ?_⟩
    try unfold tCons tC tNil
    refine sp_face (T := T) G5.dom (hk.same s05) (by omega) fun H6 p s6 np hp => ?_
    have s06 := s05.trans s6
    have G6 := G.same s06
    obtain ⟨v3, e3, hv3⟩ := G6.face (j := j) (by omega)
    refine ⟨_, rfl, _, rfl, pf, vf, _, v3, rfl, rfl, SqL.of G6.pf, atI_nat e3, ?_⟩
    try unfold tCons tC tNil
    refine sp_alike (dp_up hide_sub hp) hv3 G.os G.oe G.le ⟨true, rfl, iteF ?_⟩
    -- still
    have hk6 := hk.same s06
    refine ⟨_, rfl, k.p, dx, _, rfl, s06 _ _ hob, noCopied, ?_⟩
    try unfold tCons tC tNil
    refine sp_copied (T := T) G6.dom hk6 fun H7 n s7 fr7 hN => ?_
    have s07 := s06.trans s7
    have G7 := G6.new s7 fr7 hN.bk.dom
    have hk7 := hk6.new (F := n.fp) s7 fr7
    have nK : ∀ a ∈ k.ops, a ∉ n.fp := fun a ha z => by
      obtain ⟨o, e⟩ := hk6.bk.dom a (ops_fp a ha)
      rw [fr7 a z] at e
      cases e
    have mK := hk7.mo
    refine ⟨_, rfl, ?_⟩
    try unfold tCons tC tNil
    refine sp_again (T := T) G7.dom hk7 hj (by omega) fun H8 v k8 hv hk8 => ?_
    have G8 := G7.kp k8 mK npe npf
    have hN8 := hN.kp k8 mK nK
    obtain ⟨v2, e2, hv2⟩ := G8.edit hj
    refine ⟨_, rfl, _, rfl, pe, ve, _, v2, rfl, rfl, SqL.of G8.pe, atI_nat e2, ?_⟩
    have os := ed_shaped (G.oe _ (List.getElem_mem hj))
    refine ⟨_, _, dp_up hide_sub hv, hv2, os, os, _, rfl, ?_⟩
    rw [ed_eqv]
    refine cF rfl ?_
    refine ⟨_, rfl, ?_⟩
    try unfold tCons tC tNil
    refine sp_face (T := T) G8.dom hk8 (by omega) fun H9 p s9 np hp => ?_
    have G9 := G8.same s9
    obtain ⟨v5, e5, hv5⟩ := G9.face (j := j + 1) hj
    refine ⟨_, rfl, _, rfl, _, _, rfl, rfl, pf, vf, _, v5, rfl, rfl, SqL.of G9.pf, atI_nat (j := j + 1) e5, ?_⟩
    try unfold tCons tC tNil
    refine sp_alike (dp_up hide_sub hp) hv5 G.os G.oe G.le ⟨true, rfl, iteF ?_⟩
    -- still as it was
    refine ⟨_, rfl, ?_⟩
    try unfold tCons tC tNil
    refine sp_face (T := T) G9.dom (hN8.same s9) (by omega) fun H10 p s10 np hp => ?_
    have G10 := G9.same s10
    obtain ⟨v6, e6, hv6⟩ := G10.face (j := j) (by omega)
    refine ⟨_, rfl, _, rfl, pf, vf, _, v6, rfl, rfl, SqL.of G10.pf, atI_nat e6, ?_⟩
    try unfold tCons tC tNil
    refine sp_alike (dp_up hide_sub hp) hv6 G.os G.oe G.le ⟨true, rfl, iteT ?_⟩
    refine ⟨_, rfl, ?_⟩
    try unfold tCons tC tNil
    refine sp_again (T := T) G10.dom ((hN8.same s9).same s10) hj (by omega) fun H11 v k11 hv hN11 => ?_
    have n6 : ∀ a ∈ n.ops, H6 a = none := fun a ha => fr7 a (ops_fp a ha)
    have npe' : pe ∉ n.ops := fun z => ne_of_none G6.pe (n6 _ z) rfl
    have npf' : pf ∉ n.ops := fun z => ne_of_none G6.pf (n6 _ z) rfl
    have G11 := G10.kp k11 hN.mo npe' npf'
    obtain ⟨v7, e7, hv7⟩ := G11.edit hj
    refine ⟨_, rfl, _, rfl, pe, ve, _, v7, rfl, rfl, SqL.of G11.pe, atI_nat e7, ?_⟩
    refine ⟨_, _, dp_up hide_sub hv, hv7, os, os, ?_⟩
    rw [ed_eqv]
    have k6 : Kp k.ops H H10 := ((Kp.of (s07)).trans k8).snd (s9.trans s10)
    exact q H11 (k6.fresh_step (fun a ha => s06.free (n6 a ha)) k11)
end
end Bk

/-! What the comparisons lean on. -/
namespace Bk
open PySem L2 L2.BK

/-! ### slices -/
theorem cut_take {xs : List V} {k : Nat} (h : k ≤ xs.length) : cutV xs none (some (k : Int)) = xs.take k := by
  unfold cutV
  rw [HT.sIx_nat, HT.sIx_none, List.drop_zero, Nat.sub_zero, Nat.min_eq_left h]
theorem cut_drop {xs : List V} {k : Nat} (h : k ≤ xs.length) : cutV xs (some (k : Int)) none = xs.drop k := by
  unfold cutV
  rw [HT.sIx_nat, HT.sIx_none, Nat.min_eq_left h]
  exact List.take_of_length_le (by rw [List.length_drop]; exact Nat.le_refl _)
theorem sIx_m1 {n d : Nat} : HT.sIx n d (some (-1)) = n - 1 := by
  show (if (-1 : Int) < 0 then ((-1 : Int) + (n : Int)).toNat else min (-1 : Int).toNat n) = n - 1
  rw [if_pos (by decide)]
  omega
theorem cut_init {xs : List V} : cutV xs none (some (-1)) = xs.take (xs.length - 1) := by
  unfold cutV
  rw [sIx_m1, HT.sIx_none, List.drop_zero, Nat.sub_zero]
theorem cut_last {xs : List V} : cutV xs (some (-1)) none = xs.drop (xs.length - 1) := by
  unfold cutV
  rw [sIx_m1, HT.sIx_none]
  exact List.take_of_length_le (by rw [List.length_drop]; exact Nat.le_refl _)

section
variable {P : Program} {w : World} {K : PySem.W.Frag} {mg : Str → Option Value} {base : Heap} (T : Txt P w K mg)
abbrev s0 (bs : List Bow) (ws : List Str) : Stt := (bs, canon fun x => ws.contains x)
/-- what the comparisons are given -/
structure Eq0 (M : List Addr) (H : Hp) (b c pb pw pe : Addr) (us : List V) (bs : List Bow) (ws : List Str) (ve : List V) (es : List Ed) (k : Bks) : Prop where
  dom : Dom M H
  bM : b ∈ M
  bag : BagAt H b c
  kb : b ∉ k.fp
  hb : H pb = some (.lst us)
  ub : DpAll K (hide M H) us (bowsD bs)
  hw : H pw = some (.lst (ws.map V.str))
  he : H pe = some (.lst ve)
  ue : DpAll K (hide M H) ve (es.map edD)
  nb : pb ≠ b ∧ pw ≠ b ∧ pe ≠ b
  bk : BookAt T M H k (trail (s0 bs ws) es) es []
  ob : ∀ x ∈ bs, okBow x
  lb : bs.length ≤ 9
  ow : ∀ x ∈ ws, x ∈ WAYSL
  lw : ws.length ≤ 7
  od : ∀ e ∈ es, drawnE e
  e1 : 1 ≤ es.length
  e2 : es.length ≤ 100
/-- a book, none of it in F, F hidden from it -/
def Has (F : List Addr) (H : Hp) (o : Bks) (s : Stt) (es : List Ed) : Prop := ∃ M, (∀ a ∈ F, a ∈ M) ∧ (∀ a ∈ F, a ∉ o.fp) ∧ BookAt T M H o (trail s es) es []
variable {T}
variable {M : List Addr} {H H' : Hp} {b c pb pw pe : Addr} {us : List V} {bs : List Bow} {ws : List Str} {ve : List V} {es : List Ed} {k : Bks}
theorem Eq0.kp (g : Eq0 T M H b c pb pw pe us bs ws ve es k) (kp : Kp [b] H H') (B : BagAt H' b c) : Eq0 T M H' b c pb pw pe us bs ws ve es k := by
  have hF : ∀ a ∈ [b], a ∈ M := fun a h => by rw [List.mem_singleton.mp h]; exact g.bM
  have hh := kp.hide hF
  exact ⟨kp.dom g.dom, g.bM, B, g.kb, kp.at (by simpa using g.nb.1) g.hb, dpAll_up hh g.ub, kp.at (by simpa using g.nb.2.1) g.hw, kp.at (by simpa using g.nb.2.2) g.he, dpAll_up hh g.ue, g.nb,
    g.bk.kp kp hF fun a h => by rw [List.mem_singleton.mp h]; exact g.kb, g.ob, g.lb, g.ow, g.lw, g.od, g.e1, g.e2⟩
theorem Eq0.same (g : Eq0 T M H b c pb pw pe us bs ws ve es k) (s : Same H H') : Eq0 T M H' b c pb pw pe us bs ws ve es k := g.kp (.of s) (g.bag.same s)
/-- with a new address hidden -/
theorem Eq0.one {a : Addr} {o : HO} (g : Eq0 T M H b c pb pw pe us bs ws ve es k) (s : Same H H') (n : H a = none) (e : H' a = some o) : Eq0 T (a :: M) H' b c pb pw pe us bs ws ve es k := by
  have hh := hide_one (M := M) s n
  exact ⟨.cons e (g.dom.up s), List.mem_cons_of_mem _ g.bM, g.bag.same s, g.kb, s _ _ g.hb, dpAll_up hh g.ub, s _ _ g.hw, s _ _ g.he, dpAll_up hh g.ue, g.nb, g.bk.one s n, g.ob, g.lb, g.ow, g.lw, g.od, g.e1, g.e2⟩
theorem Eq0.oe (g : Eq0 T M H b c pb pw pe us bs ws ve es k) : okEds es := fun e h => (g.od e h).1
theorem Eq0.lu (g : Eq0 T M H b c pb pw pe us bs ws ve es k) : us.length = bs.length := (dpAll_len g.ub).trans (List.length_map _)
theorem Eq0.lv (g : Eq0 T M H b c pb pw pe us bs ws ve es k) : ve.length = es.length := (dpAll_len g.ue).trans (List.length_map _)
theorem Eq0.os (g : Eq0 T M H b c pb pw pe us bs ws ve es k) : okSt 900 (s0 bs ws) := ⟨g.ob, Nat.le_trans g.lb (by decide), canon_self _⟩
theorem paired_ed {vs : List V} {ds : List Ed} (h : DpAll K H vs (ds.map edD)) : Paired (EdV K H) vs ds := paired_up (fun v e x => .inl x) (dp_paired h)
theorem sp_done {us' : List V} {bs' : List Bow} {ws' : List Str} {vs : List V} {ds : List Ed} {pb' pw' pe' : Addr} {Q : VK} {E : XK} (dM : Dom M H) (hb : H pb' = some (.lst us')) (ub : DpAll K (hide M H) us' (bowsD bs')) (hw : H pw' = some (.lst (ws'.map V.str))) (he : H pe' = some (.lst vs)) (ue : Paired (EdV K (hide M H)) vs ds)
    (ob : ∀ x ∈ bs', okBow x) (lb : bs'.length ≤ 100) (ow : ∀ x ∈ ws', x ∈ WAYSL) (lw : ws'.length ≤ 100) (oe : okEds ds) (le : ds.length ≤ 500)
    (q : ∀ H' o, Same H H' → (∀ a ∈ o.fp, H a = none) → BookAt T (o.fp ++ M) H' o (trail (s0 bs' ws') ds) ds [] → Q (.ref o.p) H') : spDone T [.ref pb', .ref pw', .ref pe'] H Q E :=
  ⟨M, pb', us', bs', pw', ws', pe', vs, ds, rfl, dM, .inl (SqL.of hb), ub, SqL.of hw, SqL.of he, ue, ob, lb, ow, lw, oe, le, q⟩
theorem Has.of {F : List Addr} {o : Bks} {s : Stt} {ds : List Ed} (fr : ∀ a ∈ o.fp, H a = none) (d : Dom F H) (hF : ∀ a ∈ F, a ∈ M) (h : BookAt T (o.fp ++ M) H' o (trail s ds) ds []) : Has T F H' o s ds :=
  ⟨o.fp ++ M, fun a ha => List.mem_append_right _ (hF a ha), (fun a ha z => by
    obtain ⟨u, e⟩ := d a ha
    rw [fr a z] at e
    cases e), h⟩
theorem Has.kp {F : List Addr} {o : Bks} {s : Stt} {ds : List Ed} (h : Has T F H o s ds) (kp : Kp F H H') : Has T F H' o s ds := by
  obtain ⟨M', h1, h2, h3⟩ := h
  exact ⟨M', h1, h2, h3.kp kp h1 h2⟩
theorem Has.same {F : List Addr} {o : Bks} {s : Stt} {ds : List Ed} (h : Has T F H o s ds) (s' : Same H H') : Has T F H' o s ds := h.kp (.of s')
theorem Has.one {F : List Addr} {o : Bks} {s : Stt} {ds : List Ed} {a : Addr} (h : Has T F H o s ds) (s' : Same H H') (n : H a = none) : Has T (a :: F) H' o s ds := by
  obtain ⟨M', h1, h2, h3⟩ := h
  refine ⟨a :: M', fun x hx => ?_, fun x hx z => ?_, h3.one s' n⟩
  · rcases List.mem_cons.mp hx with e | e
    · rw [e]; exact List.mem_cons_self
    · exact List.mem_cons_of_mem _ (h1 x e)
  · rcases List.mem_cons.mp hx with e | e
    · obtain ⟨u, q⟩ := h3.dom x z
      rw [e, n] at q
      cases q
    · exact h2 x e z
/-- another book, not as the first one -/
def Oth (T : Txt P w K mg) (F : List Addr) (H : Hp) (bs : List Bow) (ws : List Str) (es : List Ed) (v : V) : Prop := ∃ o s ds, v = .ref o.p ∧ Has T F H o s ds ∧ okEds ds ∧ okSt 900 s ∧ ¬ (ds = es ∧ s = s0 bs ws)
theorem Oth.kp {F : List Addr} {v : V} (h : Oth T F H bs ws es v) (kp : Kp F H H') : Oth T F H' bs ws es v := by
  obtain ⟨o, s, ds, e, h1, r⟩ := h
  exact ⟨o, s, ds, e, h1.kp kp, r⟩
theorem far_ne {bs : List Bow} {ws : List Str} : s0 bs (WAYSL.filter fun x => !ws.contains x) ≠ s0 bs ws := fun z => by
  have e := congrArg Prod.snd z
  have hx : ("apart" : Str) ∈ WAYSL := List.mem_cons_self
  have e1 : (canon fun x => (WAYSL.filter fun x => !ws.contains x).contains x).contains "apart" = (canon fun x => ws.contains x).contains "apart" := by
    show ((s0 bs (WAYSL.filter fun x => !ws.contains x)).2).contains "apart" = ((s0 bs ws).2).contains "apart"
    rw [e]
  rw [contains_canon hx, contains_canon hx] at e1
  have e2 : (WAYSL.filter fun x => !ws.contains x).contains ("apart" : Str) = !ws.contains ("apart" : Str) := by
    cases q : ws.contains ("apart" : Str) with
    | true =>
      refine Bool.eq_false_iff.mpr fun z => ?_
      have m := (List.mem_filter.mp (List.contains_iff_mem.mp z)).2
      rw [q] at m
      cases m
    | false => exact List.contains_iff_mem.mpr (List.mem_filter.mpr ⟨hx, by rw [q]; rfl⟩)
  rw [e2] at e1
  cases q : ws.contains ("apart" : Str) <;> rw [q] at e1 <;> cases e1
/-- compared with the first one -/
theorem sp_oth {v : V} {o : Bks} {s : Stt} {ds : List Ed} {Q : VK} {E : XK} {F : List Addr} (g : Eq0 T M H b c pb pw pe us bs ws ve es k) (h : Has T F H o s ds) (od : okEds ds) (os : okSt 900 s) (q : ∀ H', Same H H' → Q (.bl (decide (ds = es ∧ s = s0 bs ws))) H') : spBEq T [.ref o.p, .ref k.p] H Q E := by
  obtain ⟨M', _, _, h3⟩ := h
  exact sp_eq h3 g.bk od g.oe os g.os q
theorem sp_oth2 {v : V} {o : Bks} {s : Stt} {ds : List Ed} {Q : VK} {E : XK} {F : List Addr} (g : Eq0 T M H b c pb pw pe us bs ws ve es k) (h : Has T F H o s ds) (od : okEds ds) (os : okSt 900 s) (q : ∀ H', Same H H' → Q (.bl (decide (es = ds ∧ s0 bs ws = s))) H') : spBEq T [.ref k.p, .ref o.p] H Q E := by
  obtain ⟨M', _, _, h3⟩ := h
  exact sp_eq g.bk h3 g.oe od g.os os q
theorem Has.ob {F : List Addr} {o : Bks} {s : Stt} {ds : List Ed} (h : Has T F H o s ds) : ∃ dx, H o.p = some (.ins T.book.C dx (bf o.ls o.le o.lu)) := let ⟨_, _, _, h3⟩ := h; h3.ob
theorem Has.ty {F : List Addr} {o : Bks} {s : Stt} {ds : List Ed} (h : Has T F H o s ds) : TyR K H (.ref o.p) (.ref T.book.C) := let ⟨_, _, _, h3⟩ := h; tyBook h3
end
end Bk

/-! The walks: books compared. -/
namespace Bk
open PySem L2 L2.BK

section
variable {P : Program} {w : World} {K : PySem.W.Frag} {mg : Str → Option Value} {base : Heap} (T : Txt P w K mg)
def spEquals : Sp := fun vs H Q _ => ∃ M b c pb pw pe us bs ws ve es k, vs = [.ref b, .ref pb, .ref pw, .ref pe, .ref k.p] ∧ Eq0 T M H b c pb pw pe us bs ws ve es k ∧ ∀ H', Kp [b] H H' → BagAt H' b c → Q (.bl true) H'
abbrev nEq : List Str := ["_law_bag_here", "_law_bows_here", "_law_ways", "_law_edits_here", "_law_book", "_law_far", "_law_last", "_law_others", "_law_at", "_law_now", "_law_still", "_law_as_lists", "_law_one_here", "_law_name", "_law_edit"]
def rLst (K : PySem.W.Frag) : List V → Hp → VK → Prop := fun xs H Q => ∃ p ys, xs = [.ref p] ∧ (SqL K H p ys ∨ SqT K H p ys) ∧ ∀ l, H l = none → Q (.ref l) (upd H l (.lst ys))
def asD : Ed → PyData
  | .row bs => .tuple [.str "row", .list (bowsD bs)]
  | e => edD e
theorem asD_ev {H : Hp} {v : V} {e : Ed} (h : Dp K H v (asD e)) : EdV K H v e := by
  cases e with
  | row bs => exact .inr ⟨bs, rfl, h⟩
  | turn => exact .inl h
  | let_ x => exact .inl h
  | bar x => exact .inl h
  | put x => exact .inl h
theorem asD_no {e : Ed} (h : ∀ bs, e ≠ .row bs) : asD e = edD e := by
  cases e with
  | row bs => exact absurd rfl (h bs)
  | turn => rfl
  | let_ x => rfl
  | bar x => rfl
  | put x => rfl
theorem tag_row {e : Ed} (h : ∀ bs, e ≠ .row bs) : decide (V.str (tag e) = V.str "row") = false := by
  cases e with
  | row bs => exact absurd rfl (h bs)
  | turn => show decide (V.str "turn" = V.str "row") = false; decide +kernel
  | let_ x => show decide (V.str "let" = V.str "row") = false; decide +kernel
  | bar x => show decide (V.str "bar" = V.str "row") = false; decide +kernel
  | put x => show decide (V.str "put" = V.str "row") = false; decide +kernel
def stillE (nw : List Str) (x : Str) : Ed := if nw.contains x = true then .let_ x else .bar x
theorem stillE_ok {nw : List Str} {x : Str} (h : x ∈ WAYSL) : okEd (stillE nw x) := by
  unfold stillE
  split <;> exact h
theorem stillE_inj {nw : List Str} {x y : Str} (h : stillE nw x = stillE nw y) : x = y := by
  unfold stillE at h
  split at h <;> split at h <;> first | (injection h) | (cases h)
theorem nd_ways : WAYSL.Nodup := by decide +kernel
theorem perm_two {zs : List Str} (h : zs.Perm WAYSL) : ∃ x y r, zs = x :: y :: r ∧ x ≠ y ∧ x ∈ WAYSL ∧ y ∈ WAYSL := by
  have hl : zs.length = 7 := h.length_eq
  match zs, h, hl with
  | x :: y :: r, h, _ =>
    have nd := h.nodup_iff.mpr nd_ways
    refine ⟨x, y, r, rfl, fun e => ?_, h.mem_iff.mp (by simp), h.mem_iff.mp (by simp)⟩
    exact (List.nodup_cons.mp nd).1 (by rw [e]; exact List.mem_cons_self)

theorem sc_equals : FnScope nEq ["_law_bag_here", "_law_bows_here", "_law_ways", "_law_edits_here", "_law_book"] (defScope s_equals) := ⟨rfl, rfl, rfl, by decide +kernel, rfl, by decide +kernel, by decide +kernel⟩
theorem equals_tail {cdv : Value} {A : Around} {outer : List Env} {sh : Shared} {H : Hp} {Q : VK} {E : XK} (hr : Room 11 (A.deeper (PyProof.Rows.envOfC ("_law_equals_right" : Str) (defScope s_equals) sh.heap.objs.size T.equals.f cdv)))
    {M : List Addr} {b c pb pw pe : Addr} {us : List V} {bs : List Bow} {ws : List Str} {ve : List V} {es : List Ed} {k : Bks}
    (q : ∀ H', Kp [b] H H' → BagAt H' b c → Q (.bl true) H') :
    ∃ t, PSs (cxOf CX0 P w K mg base nEq "_law_equals_right" (defScope s_equals) T.equals.f cdv A outer sh H E).nox (List.drop 7 (defBody s_equals)) t ∧
      ∀ (H0 : Hp) (pn : Addr) (nw : List Str) (x5 x6 x7 x8 : Option V), Kp [b] H H0 → Eq0 T M H0 b c pb pw pe us bs ws ve es k → H0 pn = some (.lst (nw.map V.str)) → pn ≠ b →
        t { nx := fun _ H' => Q .non H', rt := Q } [some (.ref b), some (.ref pb), some (.ref pw), some (.ref pe), some (.ref k.p), x5, x6, x7, x8, some (.ref pn), none, none, none, none, none] H0 := by
  have gM : FnOk P w K mg base CX0 2 T.mixed.f T.mixed.fd ["_law_bag_here", "_law_things"] spMixed := ok_mixed T
  have gA : FnOk P w K mg base CX0 1 T.allWays.f T.allWays.fd [] spAllWays := ok_allWays T
  have gD : FnOk P w K mg base CX0 11 T.done.f T.done.fd ["_law_bows_here", "_law_ways", "_law_edits_here"] (spDone T) := ok_done T
  have gE : FnOk P w K mg base CX0 4 T.bEq.f T.bEq.fd ["self", "other"] (spBEq T) := ok_bEq T
  have hr1 : Room 1 _ := hr.mono (by decide)
  have hr2 : Room 2 _ := hr.mono (by decide)
  have hr4 : Room 4 _ := hr.mono (by decide)
  have hr5 : Room (4 + 1) _ := hr.mono (by decide)
  refine ⟨_, pss_cons (ps_setLc (i := 10) (own := [("_law_name", 13)]) (g := gName 13) (tt := tYes) (by rfl) sc_equals.nd rfl rfl (sw_true rfl rfl rfl (by decide +kernel))
        (pi_list (pe_slice sl_list (pe_call gM hr2 (by rfl) T.mixed.mg T.mixed.F.kp T.mixed.b .nil pass0 (pa_cons (pv 0) (pa_cons (pe_call0 gA hr1 (by rfl) T.allWays.mg T.allWays.F.kp T.allWays.b .nil pass0) pa_nil))) po_none (po_some pe_int)))
        (blkOk_by (own := [("_law_name", 13)]) (N := nEq) (sc := defScope s_equals) (by decide +kernel))
        (fun _ _ _ _ _ => pg_name (i := 13) sc_equals.nd rfl (Or.inl rfl)) (fun _ _ _ _ _ => pts_nil)
        (fun _ _ _ _ _ => pe_tup (pa_cons (pe_ifExp (pt_cmpR (r := rIn K false) op_in_seq (pv 13) (pv 9) (by rfl)) pe_str pe_str) (pa_cons (pv 13) pa_nil))))
    (pss_cons (ps_if (pt_cmpR (op_eq_own gE hr4 T.bEq.b pass0 T.bEq.m) (pe_call gD hr (by rfl) T.done.mg T.done.F.kp T.done.b .nil pass0 (pa_cons (pv 1) (pa_cons (pv 2) (pa_cons (pe_op op_cat (pv 3) (pe_slice sl_list (pv 10) po_none (po_some pe_int))) pa_nil))))
        (pe_call gD hr (by rfl) T.done.mg T.done.F.kp T.done.b .nil pass0 (pa_cons (pv 1) (pa_cons (pv 2) (pa_cons (pe_op op_cat (pv 3) (pe_slice sl_list (pv 10) (po_some pe_int) po_none)) pa_nil)))) (nomark _)) (pss_one (ps_ret pe_bl)) pss_nil)
    (pss_cons (ps_setLc (i := 11) (own := [("_law_edit", 14)]) (g := gName 14) (tt := tYes) (by rfl) sc_equals.nd rfl rfl (sw_true rfl rfl rfl (by decide +kernel)) (pi_list (pv 3)) (blkOk_by (own := [("_law_edit", 14)]) (N := nEq) (sc := defScope s_equals) (by decide +kernel))
        (fun _ _ _ _ _ => pg_name (i := 14) sc_equals.nd rfl (Or.inl rfl)) (fun _ _ _ _ _ => pts_nil)
        (fun _ _ _ _ _ => pe_ifExp (pt_cmpR op_eq (pe_ix (r := rIxT K) ix_tup (pv 14) pe_int (fun _ _ => rfl)) pe_str (nomark _))
          (pe_tup (pa_cons pe_str (pa_cons (pe_callTy (r := rLst K) call_list_of (by rfl) T.n_list (by decide +kernel) (pa_cons (pe_ix (r := rIxT K) ix_tup (pv 14) pe_int (fun _ _ => rfl)) pa_nil)) pa_nil))) (pv 14)))
    (pss_cons (ps_if (PW.pt (pw_or (pt_not (pt_cmpR (op_eq_own gE hr4 T.bEq.b pass0 T.bEq.m) (pe_call gD hr (by rfl) T.done.mg T.done.F.kp T.done.b .nil pass0 (pa_cons (pv 1) (pa_cons (pv 2) (pa_cons (pv 11) pa_nil)))) (pv 4) (nomark _)))
        (pw_or1 (pt_cmpR (op_ne_own gE hr5 T.bEq.b pass0 T.bEq.m T.ne1 T.book.ob) (pe_call gD hr (by rfl) T.done.mg T.done.F.kp T.done.b .nil pass0 (pa_cons (pv 1) (pa_cons (pv 2) (pa_cons (pv 11) pa_nil)))) (pv 4) (nomark _))))) (pss_one (ps_ret pe_bl)) pss_nil)
    (pss_one (ps_ret (pe_and (pe_cmpR (op_eq_own gE hr4 T.bEq.b pass0 T.bEq.m) (pe_call gD hr (by rfl) T.done.mg T.done.F.kp T.done.b .nil pass0 (pa_cons (pv 1) (pa_cons (pv 2) (pa_cons (pv 3) pa_nil)))) (pv 4) (nomark _))
      (pe_and (pe_not (pe_cmpR (op_eq_own gE hr4 T.bEq.b pass0 T.bEq.m) (pv 4) (pv 3) (nomark _))) (pe_one (pe_cmpR (op_ne_own gE hr5 T.bEq.b pass0 T.bEq.m T.ne1 T.book.ob) (pv 4) pe_non (nomark _)))))))))), ?_⟩
  intro H0 pn nw x5 x6 x7 x8 k0 g0 hpn npn
  have oe := g0.oe
  have le := g0.e2
  -- still
  refine ⟨_, rfl, rfl, fun w1 nw1 => ?_⟩
  refine ⟨b, c, w1, WAYSL, rfl, g0.bag.out (g0.bag.ne nw1), upd_same, (g0.bag.ne nw1).1, by decide, fun H1 pm zs k1 hB1 npm hpm perm => ?_⟩
  have k01 : Kp [b] H0 H1 := (Kp.refl.upd (.inr nw1)).trans k1
  have g1 := g0.kp k01 hB1
  refine ⟨2, rfl, pm, _, rfl, SqL.of hpm, fun p2 np2 => ?_⟩
  obtain ⟨x, y, rest, rfl, xy, hx, hy⟩ := perm_two perm
  have ec : cutV ((x :: y :: rest).map V.str) none (some 2) = [V.str x, V.str y] := cut_take (k := 2) (by simp)
  rw [ec]
  have s2 : Same H1 (upd H1 p2 (.lst [.str x, .str y])) := same_upd (Same.refl H1) np2
  have h2 : upd H1 p2 (.lst [.str x, .str y]) p2 = some (.lst [.str x, .str y]) := upd_same
  generalize upd H1 p2 (.lst [.str x, .str y]) = H2 at s2 h2
  have k02 := k01.snd s2
  have g2 := g1.same s2
  have hpn2 := k02.at (by simpa using npn) hpn
  refine ⟨p2, rfl, ⟨_, SqL.of h2⟩, fun D hD => ?_⟩
  refine lc_list (K := K) (xs := [.str x, .str y]) (fun i H' => ∃ acc, Acc K [] H2 D H' acc ((([x, y].map (stillE nw)).take i).map edD)) ⟨[], Acc.start hD⟩ (fun i H' _ ⟨_, z⟩ => SqL.of (z.kp.same _ _ h2)) (fun i v H' hv z => ?_) (fun H' z => ?_)
  · obtain ⟨acc, A⟩ := z
    have hi : i < 2 := (List.getElem?_eq_some_iff.mp hv).1
    have ev : v = .str ([x, y][i]'hi) := by
      have : ([x, y].map V.str)[i]? = some v := hv
      rw [List.getElem?_map, List.getElem?_eq_getElem hi] at this
      exact (Option.some.inj this).symm
    subst ev
    refine ⟨rfl, yes (iteT ?_)⟩
    refine ⟨_, rfl, _, rfl, pn, _, rfl, .inl (SqL.of (A.kp.same _ _ hpn2)), rfl, flat_strs _, _, rfl, ?_⟩
    rw [inStrs]
    have go : ∀ t, H' t = none → ∃ acc', (upd H' t (.tup [.str (tag (stillE nw [x, y][i])), .str [x, y][i]])) D = some (.lst acc') ∧ acc'.length < sizeLine ∧ ∃ acc'', Acc K [] H2 D (upd (upd H' t (.tup [.str (tag (stillE nw [x, y][i])), .str [x, y][i]])) D (.lst (acc' ++ [.ref t]))) acc'' ((([x, y].map (stillE nw)).take (i + 1)).map edD) := fun t nt => by
      have hDt : D ≠ t := ne_of_none A.at_ nt
      have hAl := (dpAll_len (A.dat [] Dom.nil (by simp)))
      refine ⟨acc, by rw [upd_ne hDt]; exact A.at_, ?_, acc ++ [.ref t], ?_⟩
      · rw [hAl, PySem.sizeLine_eq, List.length_map, List.length_take]
        omega
      · have e : (([x, y].map (stillE nw)).take (i + 1)).map edD = (([x, y].map (stillE nw)).take i).map edD ++ [edD (stillE nw [x, y][i])] := by
          rw [take_snoc (by rw [List.length_map]; exact hi), List.map_append, List.getElem_map]
          rfl
        rw [e]
        refine A.push (Kp.refl.upd (.inr nt)) fun M' hM' _ => ?_
        have hz := SqT.of (K := K) (hide_get (hide_new (A.dom hM') nt) (upd_same (H := H') (o := HO.tup [.str (tag (stillE nw [x, y][i])), .str [x, y][i]])))
        rw [edD_eq]
        refine .tup hz (.cons (.str _) ?_)
        unfold stillE
        split <;> exact .cons (.str _) .nil
    refine ite2 (fun hc => ?_) (fun hc => ?_) <;> rw [if_neg Bool.false_ne_true] at hc
    · refine ⟨_, rfl, by show 2 ≤ sizeLine; decide, fun t nt => ?_⟩
      have z := go t nt
      have e : tag (stillE nw [x, y][i]) = "let" := by
        unfold stillE
        rw [if_pos hc]
        rfl
      rw [e] at z
      exact z
    · refine ⟨_, rfl, by show 2 ≤ sizeLine; decide, fun t nt => ?_⟩
      have z := go t nt
      have e : tag (stillE nw [x, y][i]) = "bar" := by
        unfold stillE
        rw [if_neg hc]
        rfl
      rw [e] at z
      exact z
  · obtain ⟨acc, A⟩ := z
    have dA : ∀ M', Dom M' H2 → DpAll K (hide M' H') acc [edD (stillE nw x), edD (stillE nw y)] := fun M' hM' => A.done M' hM' (by simp)
    have s3 := A.kp.same
    have g3 := g2.same s3
    have hD3 := A.at_
    have d3 := dA M g2.dom
    have al : acc.length = 2 := dpAll_len d3
    have k03 := k02.snd s3
    -- with the one, with the other
    refine ⟨_, rfl, _, rfl, _, rfl, _, rfl, 1, rfl, D, acc, rfl, SqL.of hD3, fun p np => ?_⟩
    have ec1 : cutV acc none (some 1) = acc.take 1 := cut_take (k := 1) (by omega)
    rw [ec1]
    have hvl := g0.lv
    refine ⟨pe, p, ve, acc.take 1, rfl, rfl, same_upd (Same.refl _) np _ _ g3.he, upd_same, by rw [hvl, List.length_take, PySem.sizeLine_eq]; omega, fun p' np' => ?_⟩
    have s4 : Same H' (upd (upd H' p (.lst (acc.take 1))) p' (.lst (ve ++ acc.take 1))) := same_upd (same_upd (Same.refl _) np) np'
    have h4 : upd (upd H' p (.lst (acc.take 1))) p' (.lst (ve ++ acc.take 1)) p' = some (.lst (ve ++ acc.take 1)) := upd_same
    generalize upd (upd H' p (.lst (acc.take 1))) p' (.lst (ve ++ acc.take 1)) = H4 at s4 h4
    have g4 := g3.same s4
    have d4 := dpAll_up (hide_up (M := M) s4) d3
    try unfold tCons tC tNil
    refine sp_done (T := T) (bs' := bs) (ws' := ws) (ds := es ++ [stillE nw x]) g4.dom g4.hb g4.ub g4.hw h4 (paired_ed (by rw [List.map_append]; exact dpAll_app g4.ue (dpAll_take 1 d4))) g4.ob (by have := g4.lb; omega) g4.ow (by have := g4.lw; omega) (fun e he => ?_) (by rw [List.length_append]; show es.length + 1 ≤ _; omega) fun H5 o1 s5 fr1 B1 => ?_
    · rcases List.mem_append.mp he with z | z
      · exact oe e z
      · rw [List.mem_singleton.mp z]; exact stillE_ok hx
    have g5 := g4.same s5
    have s35 := s4.trans s5
    have hD5 := s35 _ _ hD3
    refine ⟨_, rfl, _, rfl, _, rfl, _, rfl, 1, rfl, D, acc, rfl, SqL.of hD5, fun p6 np6 => ?_⟩
    have ec2 : cutV acc (some 1) none = acc.drop 1 := cut_drop (k := 1) (by omega)
    rw [ec2]
    refine ⟨pe, p6, ve, acc.drop 1, rfl, rfl, same_upd (Same.refl _) np6 _ _ g5.he, upd_same, by rw [hvl, List.length_drop, PySem.sizeLine_eq]; omega, fun p7 np7 => ?_⟩
    have s6 : Same H5 (upd (upd H5 p6 (.lst (acc.drop 1))) p7 (.lst (ve ++ acc.drop 1))) := same_upd (same_upd (Same.refl _) np6) np7
    have h6 : upd (upd H5 p6 (.lst (acc.drop 1))) p7 (.lst (ve ++ acc.drop 1)) p7 = some (.lst (ve ++ acc.drop 1)) := upd_same
    generalize upd (upd H5 p6 (.lst (acc.drop 1))) p7 (.lst (ve ++ acc.drop 1)) = H6 at s6 h6
    have g6 := g5.same s6
    have d6 := dpAll_up (hide_up (M := M) (s35.trans s6)) d3
    try unfold tCons tC tNil
    refine sp_done (T := T) (bs' := bs) (ws' := ws) (ds := es ++ [stillE nw y]) g6.dom g6.hb g6.ub g6.hw h6 (paired_ed (by rw [List.map_append]; exact dpAll_app g6.ue (dpAll_drop 1 d6))) g6.ob (by have := g6.lb; omega) g6.ow (by have := g6.lw; omega) (fun e he => ?_) (by rw [List.length_append]; show es.length + 1 ≤ _; omega) fun H7 o2 s7 fr2 B2 => ?_
    · rcases List.mem_append.mp he with z | z
      · exact oe e z
      · rw [List.mem_singleton.mp z]; exact stillE_ok hy
    have B1' := B1.same (s6.trans s7)
    obtain ⟨d1, ob1⟩ := B1'.ob
    refine ⟨o1.p, d1, _, .ref T.book.C, rfl, ob1, tyBook B2, T.nf1, ?_⟩
    have oks : ∀ z ∈ WAYSL, okEds (es ++ [stillE nw z]) := fun z hz e he => by
      rcases List.mem_append.mp he with m | m
      · exact oe e m
      · rw [List.mem_singleton.mp m]; exact stillE_ok hz
    try unfold tCons tC tNil
    refine sp_eq (T := T) B1' B2 (oks x hx) (oks y hy) g0.os g0.os fun H8 s8 => ?_
    refine ⟨_, rfl, cF (decide_eq_false fun z => xy (stillE_inj (nw := nw) ?_)) ?_⟩
    · have e := List.append_cancel_left z.1
      exact (List.cons.inj e).1
    have k08 := k03.snd ((s35.trans (s6.trans s7)).trans s8)
    have g8 := g0.kp k08 (g3.bag.same ((s35.trans (s6.trans s7)).trans s8))
    clear B1 B1' B2 ob1 d4 d6 d3 dA
    -- the rows' bows as lists
    refine ⟨_, rfl, pe, rfl, ⟨_, SqL.of g8.he⟩, fun D2 hD2 => ?_⟩
    refine lc_list (K := K) (xs := ve) (fun i H' => Same H8 H' ∧ ∃ acc, H' D2 = some (.lst acc) ∧ DpAll K (hide (D2 :: M) H') acc ((es.take i).map asD)) ⟨same_upd (Same.refl _) hD2, [], upd_same, .nil⟩ (fun i H' _ z => SqL.of (z.1 _ _ g8.he)) (fun i v H' hv z => ?_) (fun H' z => ?_)
    · obtain ⟨sH, acc2, hA, dA⟩ := z
      have hi : i < es.length := by rw [← hvl]; exact (List.getElem?_eq_some_iff.mp hv).1
      obtain ⟨v', e1, hd⟩ := dpAll_get g8.ue (eds_get hi)
      rw [hv] at e1
      cases e1
      have hh : Same (hide M H8) (hide (D2 :: M) H') := hide_one sH hD2
      have hdH := dp_up hh hd
      have a2l : acc2.length = i := by
        have := (dpAll_len dA).trans (List.length_map _)
        rw [this, List.length_take]
        omega
      have et : (es.take (i + 1)).map asD = (es.take i).map asD ++ [asD es[i]] := by rw [take_snoc hi, List.map_append]; rfl
      refine ⟨rfl, yes (iteT ?_)⟩
      by_cases hrow : ∃ cs, es[i] = .row cs
      · obtain ⟨cs, hcs⟩ := hrow
        rw [hcs] at hdH et
        obtain ⟨t, us', rfl, ht0, htl⟩ := told_inv hdH
        cases htl with
        | cons a r =>
        cases r
        obtain ⟨a', xs, rfl, q1, q2⟩ := tup_inv a
        have ht : SqT K H' t [.str "row", .ref a'] := Same.seqT hide_sub ht0
        refine ⟨_, rfl, t, _, _, _, rfl, rfl, ht, atI_nat (j := 0) rfl, rfl, _, rfl, cT (by decide +kernel) ?_⟩
        refine ⟨_, rfl, t, _, _, _, rfl, rfl, ht, atI_nat (j := 1) rfl, a', xs, rfl, .inr (Same.seqT hide_sub q1), fun l nl => ⟨by show 2 ≤ sizeLine; decide, fun t2 nt2 => ?_⟩⟩
        have sa : Same H' (upd H' l (.lst xs)) := same_upd (Same.refl _) nl
        have sb : Same H' (upd (upd H' l (.lst xs)) t2 (.tup [.str "row", .ref l])) := same_upd sa nt2
        have hl' : upd (upd H' l (.lst xs)) t2 (.tup [.str "row", .ref l]) l = some (.lst xs) := by rw [upd_ne (ne_of_none upd_same nt2), upd_same]
        have ht2 : upd (upd H' l (.lst xs)) t2 (.tup [.str "row", .ref l]) t2 = some (.tup [.str "row", .ref l]) := upd_same
        have nt2' := sa.free nt2
        generalize upd (upd H' l (.lst xs)) t2 (.tup [.str "row", .ref l]) = H'' at sb hl' ht2
        have dD : Dom (D2 :: M) H' := .cons hA (g8.dom.up sH)
        refine ⟨acc2, sb _ _ hA, by rw [a2l, PySem.sizeLine_eq]; omega, ?_, acc2 ++ [.ref t2], upd_same, ?_⟩
        · exact fun o u e => by
            rw [upd_ne (ne_of_none e hD2)]
            exact sb _ _ (sH _ _ e)
        · rw [hide_upd List.mem_cons_self, et]
          exact dpAll_app (dpAll_up (hide_up sb) dA) (.cons (.tup (SqT.of (hide_get (hide_new dD nt2') ht2)) (.cons (.str _) (.cons (.lst (SqL.of (hide_get (hide_new dD nl) hl')) (dpAll_up (hide_up sb) q2)) .nil))) .nil)
      · have hno : ∀ cs, es[i] ≠ .row cs := fun cs z => hrow ⟨cs, z⟩
        obtain ⟨t, us', rfl, ht0, htl⟩ := told_inv hdH
        have ht := Same.seqT hide_sub ht0
        refine ⟨_, rfl, t, _, _, _, rfl, rfl, ht, atI_nat (j := 0) rfl, rfl, _, rfl, cF (tag_row hno) ?_⟩
        refine ⟨_, rfl, acc2, hA, by rw [a2l, PySem.sizeLine_eq]; omega, ?_, acc2 ++ [.ref t], upd_same, ?_⟩
        · exact fun o u e => by
            rw [upd_ne (ne_of_none e hD2)]
            exact sH _ _ e
        · rw [hide_upd List.mem_cons_self, et, asD_no hno]
          exact dpAll_app dA (.cons hdH .nil)
    · obtain ⟨s9, acc2, hA, dA⟩ := z
      rw [hvl, List.take_length] at dA
      have k09 := k08.snd s9
      have g9 := g8.same s9
      have pA : Paired (EdV K (hide M H')) acc2 es := paired_up (fun v e h => asD_ev h) (dp_paired (dpAll_up (hide_more fun a h => List.mem_cons_of_mem _ h) dA))
      -- as lists, equal
      refine ⟨_, rfl, _, rfl, _, rfl, ?_⟩
      try unfold tCons tC tNil
      refine sp_done (T := T) (bs' := bs) (ws' := ws) (ds := es) g9.dom g9.hb g9.ub g9.hw hA pA g9.ob (by have := g9.lb; omega) g9.ow (by have := g9.lw; omega) oe (by omega) fun H10 o3 s10 fr3 B3 => ?_
      have g10 := g9.same s10
      obtain ⟨d3, ob3⟩ := B3.ob
      refine ⟨_, rfl, o3.p, d3, _, .ref T.book.C, rfl, ob3, tyBook g10.bk, T.nf1, ?_⟩
      try unfold tCons tC tNil
      refine sp_eq (T := T) B3 g10.bk oe oe g0.os g0.os fun H11 s11 => ?_
      refine ⟨_, rfl, ?_⟩
      rw [decide_eq_true (show es = es ∧ s0 bs ws = s0 bs ws from ⟨rfl, rfl⟩)]
      refine cF rfl ?_
      have s911 := s10.trans s11
      have g11 := g9.same s911
      have hA11 := s911 _ _ hA
      refine ⟨_, rfl, _, rfl, _, rfl, ?_⟩
      try unfold tCons tC tNil
      refine sp_done (T := T) (bs' := bs) (ws' := ws) (ds := es) g11.dom g11.hb g11.ub g11.hw hA11 (paired_up (fun v e h => edV_up (hide_up s911) h) pA) g11.ob (by have := g9.lb; omega) g11.ow (by have := g9.lw; omega) oe (by omega) fun H12 o4 s12 fr4 B4 => ?_
      have g12 := g11.same s12
      obtain ⟨d4, ob4⟩ := B4.ob
      refine ⟨_, rfl, o4.p, d4, _, .ref T.book.C, rfl, ob4, tyBook g12.bk, T.nf1, ?_⟩
      try unfold tCons tC tNil
      refine sp_eq (T := T) B4 g12.bk oe oe g0.os g0.os fun H13 s13 => ?_
      refine ⟨true, by rw [decide_eq_true (show es = es ∧ s0 bs ws = s0 bs ws from ⟨rfl, rfl⟩)], _, rfl, cF rfl ?_⟩
      have s913 := s911.trans (s12.trans s13)
      have g13 := g9.same s913
      -- the last line
      refine ⟨_, rfl, _, rfl, _, rfl, ?_⟩
      try unfold tCons tC tNil
      refine sp_done (T := T) (bs' := bs) (ws' := ws) (ds := es) g13.dom g13.hb g13.ub g13.hw g13.he (paired_ed g13.ue) g13.ob (by have := g9.lb; omega) g13.ow (by have := g9.lw; omega) oe (by omega) fun H14 o5 s14 fr5 B5 => ?_
      have g14 := g13.same s14
      obtain ⟨d5, ob5⟩ := B5.ob
      refine ⟨_, rfl, o5.p, d5, _, .ref T.book.C, rfl, ob5, tyBook g14.bk, T.nf1, ?_⟩
      try unfold tCons tC tNil
      refine sp_eq (T := T) B5 g14.bk oe oe g0.os g0.os fun H15 s15 => ?_
      refine ⟨_, rfl, ?_⟩
      rw [decide_eq_true (show es = es ∧ s0 bs ws = s0 bs ws from ⟨rfl, rfl⟩)]
      refine iteT ?_
      have s915 := s913.trans (s14.trans s15)
      have g15 := g9.same s915
      obtain ⟨dk, obk⟩ := g15.bk.ob
      obtain ⟨r0, hr0⟩ := trail_head (s0 bs ws) es
      have Bk0 := g15.bk
      rw [hr0] at Bk0
      refine ⟨_, rfl, _, rfl, k.p, dk, _, .type "list", rfl, obk, .inr (.inl ⟨pe, ve, rfl, g15.he, rfl⟩), T.nf2, ?_⟩
      refine ⟨_, k, _, _, _, _, _, rfl, Bk0, oe, g0.os, .inr ⟨.inr ⟨pe, ve, rfl, SqL.of g15.he⟩, false, rfl, true, rfl, iteT ?_⟩⟩
      refine ⟨_, rfl, k.p, dk, _, .type "NoneType", rfl, obk, .inl ⟨rfl, rfl⟩, T.nf3, ?_⟩
      refine ⟨_, k, _, _, _, _, _, rfl, Bk0, oe, g0.os, .inr ⟨.inl rfl, false, rfl, ?_⟩⟩
      exact q H15 ((k0.trans k09).snd s915) (g9.bag.same s915)
end
end Bk

/-! The walks: books compared, the first lines. -/
namespace Bk
open PySem L2 L2.BK

section
variable {P : Program} {w : World} {K : PySem.W.Frag} {mg : Str → Option Value} {base : Heap} (T : Txt P w K mg)
theorem len_neq {α : Type} {xs ys : List α} (h : xs.length ≠ ys.length) : xs ≠ ys := fun e => h (by rw [e])
theorem mem_neq {α : Type} {xs ys : List α} {a : α} (h : a ∈ xs) (n : a ∉ ys) : xs ≠ ys := fun e => n (e ▸ h)
theorem equals_mid {cdv : Value} {A : Around} {outer : List Env} {sh : Shared} {H : Hp} {Q : VK} {E : XK} (hr : Room 11 (A.deeper (PyProof.Rows.envOfC ("_law_equals_right" : Str) (defScope s_equals) sh.heap.objs.size T.equals.f cdv)))
    {M : List Addr} {b c pb pw pe : Addr} {us : List V} {bs : List Bow} {ws : List Str} {ve : List V} {es : List Ed} {k : Bks}
    (q : ∀ H', Kp [b] H H' → BagAt H' b c → Q (.bl true) H') :
    ∃ t, PSs (cxOf CX0 P w K mg base nEq "_law_equals_right" (defScope s_equals) T.equals.f cdv A outer sh H E).nox (List.drop 2 (defBody s_equals)) t ∧
      ∀ (H0 : Hp) (pf : Addr) (v : V) (e : Ed), Kp [b] H H0 → Eq0 T M H0 b c pb pw pe us bs ws ve es k → H0 pf = some (.lst ((WAYSL.filter fun x => !ws.contains x).map V.str)) → pf ≠ b → Dp K (hide M H0) v (edD e) → okEd e → e ∉ es →
        t { nx := fun _ H' => Q .non H', rt := Q } [some (.ref b), some (.ref pb), some (.ref pw), some (.ref pe), some (.ref k.p), some (.ref pf), some v, none, none, none, none, none, none, none, none] H0 := by
  obtain ⟨tl, hT, hGo⟩ := equals_tail (base := base) T (H := H) (E := E) (outer := outer) (M := M) (c := c) (pb := pb) (pw := pw) (pe := pe) (us := us) (bs := bs) (ws := ws) (ve := ve) (es := es) (k := k) hr q
  have gT : FnOk P w K mg base CX0 1 T.take.f T.take.fd ["_law_bag_here", "_law_many"] spTake := ok_take T
  have gD : FnOk P w K mg base CX0 11 T.done.f T.done.fd ["_law_bows_here", "_law_ways", "_law_edits_here"] (spDone T) := ok_done T
  have gE : FnOk P w K mg base CX0 4 T.bEq.f T.bEq.fd ["self", "other"] (spBEq T) := ok_bEq T
  have gk : FnOk P w K mg base CX0 1 T.bKind.f T.bKind.fd ["self"] (spBKind T) := ok_bKind T
  have gW : FnOk P w K mg base CX0 1 T.kWays.f T.kWays.fd ["self"] (spKWays T) := ok_kWays T
  have hr1 : Room 1 _ := hr.mono (by decide)
  have hr2 : Room (1 + 1) _ := hr.mono (by decide)
  have hr4 : Room 4 _ := hr.mono (by decide)
  have hr5 : Room (4 + 1) _ := hr.mono (by decide)
  refine ⟨_, pss_cons (ps_set (i := 7) sc_equals.nd rfl (Or.inl rfl) (pe_lst (pa_cons (pe_call gD hr (by rfl) T.done.mg T.done.F.kp T.done.b .nil pass0 (pa_cons (pe_op op_cat (pv 1) (pe_lst (pa_cons (pe_tup (pa_cons pe_int (pa_cons pe_int pa_nil))) pa_nil))) (pa_cons (pv 2) (pa_cons (pv 3) pa_nil))))
        (pa_cons (pe_call gD hr (by rfl) T.done.mg T.done.F.kp T.done.b .nil pass0 (pa_cons (pv 1) (pa_cons (pv 5) (pa_cons (pv 3) pa_nil))))
        (pa_cons (pe_call gD hr (by rfl) T.done.mg T.done.F.kp T.done.b .nil pass0 (pa_cons (pv 1) (pa_cons (pv 2) (pa_cons (pe_slice sl_list (pv 3) po_none (po_some (pe_un un_neg pe_int))) pa_nil)))) pa_nil)))))
    (pss_cons (ps_set (i := 7) sc_equals.nd rfl (Or.inl rfl) (pe_op op_cat (pv 7) (pe_lst (pa_cons (pe_call gD hr (by rfl) T.done.mg T.done.F.kp T.done.b .nil pass0 (pa_cons (pv 1) (pa_cons (pv 2) (pa_cons (pe_op op_cat (pe_slice sl_list (pv 3) po_none (po_some (pe_un un_neg pe_int))) (pe_lst (pa_cons (pv 6) pa_nil))) pa_nil))))
        (pa_cons (pe_call gD hr (by rfl) T.done.mg T.done.F.kp T.done.b .nil pass0 (pa_cons (pv 1) (pa_cons (pv 2) (pa_cons (pe_op op_cat (pv 3) (pe_slice sl_list (pv 3) (po_some (pe_un un_neg pe_int)) po_none)) pa_nil)))) pa_nil)))))
    (pss_cons (ps_asg (pe_tup (pa_cons (pe_call gT hr1 (by rfl) T.take.mg T.take.F.kp T.take.b .nil pass0 (pa_cons (pv 0) (pa_cons (pe_callB call_len_seq (by rfl) T.n_len PySem.boot_len (pa_cons (pv 3) pa_nil)) pa_nil)))
        (pa_cons (pe_meth0 (pe_prop (pv 4) T.book.cl T.bKind.m gk hr2 T.bKind.b .nil pass0 rfl) T.kind.cl T.kWays.m gW hr1 T.kWays.b .nil pass0) pa_nil)))
        (pg_tup rfl (pgs_cons (pg_name (i := 8) sc_equals.nd rfl (Or.inl rfl)) (pgs_cons (pg_name (i := 9) sc_equals.nd rfl (Or.inr rfl)) pgs_nil))))
    (pss_cons (ps_expr (pe_bm PySem.F.plainAttrs_list PySem.F.slot_list_append PySem.F.type_list_append mt_append (pv 7) (pa_cons (pe_call gD hr (by rfl) T.done.mg T.done.F.kp T.done.b .nil pass0 (pa_cons (pv 1) (pa_cons (pv 2)
        (pa_cons (pe_op op_cat (pe_op op_cat (pe_slice sl_list (pv 3) po_none (po_some (pv 8))) (pe_lst (pa_cons (pv 6) pa_nil))) (pe_slice sl_list (pv 3) (po_some (pe_op op_add (pv 8) pe_int)) po_none)) pa_nil)))) pa_nil)))
    (pss_cons (ps_if (pt_cmpR (op_neD hr.units) (pe_lc (own := [("_law_one_here", 12)]) (g := gName 12) (by rfl) sc_equals.nd (pi_list (pv 7)) (blkOk_by (own := [("_law_one_here", 12)]) (N := nEq) (sc := defScope s_equals) (by decide +kernel))
          (fun _ _ _ _ _ => pg_name (i := 12) sc_equals.nd rfl (Or.inl rfl)) (fun _ _ _ _ _ => pts_one (PW.pt (pw_or (pt_cmpR (r := rOwnEq K T.book.C (spBEq T) E0) (op_eq_own gE hr4 T.bEq.b pass0 T.bEq.m) (pv 12) (pv 4) (nomark _))
            (pw_or (pt_not (pt_cmpR (r := rOwnNe K T.book.C (spBEq T) E0) (op_ne_own gE hr5 T.bEq.b pass0 T.bEq.m T.ne1 T.book.ob) (pv 12) (pv 4) (nomark _)))
            (pw_or1 (pt_cmpR (r := rOwnEq K T.book.C (spBEq T) E0) (op_eq_own gE hr4 T.bEq.b pass0 T.bEq.m) (pv 4) (pv 12) (nomark _)))))))
          (fun _ _ _ _ _ => pv 12)) (pe_lst pa_nil) (nomark _)) (pss_one (ps_ret pe_bl)) pss_nil) hT)))), ?_⟩
  intro H0 pf v e k0 g0 hpf npf hv he hn
  have oe := g0.oe
  have le := g0.e2
  have ge := g0.e1
  have hvl := g0.lv
  have hul := g0.lu
  have lb := g0.lb
  have lw := g0.lw
  have db : ∀ {H' : Hp}, Eq0 T M H' b c pb pw pe us bs ws ve es k → Dom [b] H' := fun g => .cons g.bag.live.1.choose_spec .nil
  have mb : ∀ a ∈ [b], a ∈ M := fun a h => by rw [List.mem_singleton.mp h]; exact g0.bM
  -- a bow more
  refine ⟨_, rfl, by show 2 ≤ sizeLine; decide, fun t nt => ⟨by show 1 ≤ sizeLine; decide, fun l nl => ⟨pb, l, us, [.ref t], rfl, rfl, ?_, upd_same, by rw [hul, PySem.sizeLine_eq]; show bs.length + 1 ≤ _; omega, fun p np => ?_⟩⟩⟩
  · exact same_upd (same_upd (Same.refl _) nt) nl _ _ g0.hb
  have s1 : Same H0 (upd (upd (upd H0 t (.tup [.int 0, .int 1])) l (.lst [.ref t])) p (.lst (us ++ [.ref t]))) := same_upd (same_upd (same_upd (Same.refl _) nt) nl) np
  have ht : upd (upd (upd H0 t (.tup [.int 0, .int 1])) l (.lst [.ref t])) p (.lst (us ++ [.ref t])) t = some (.tup [.int 0, .int 1]) := by
    rw [upd_ne (ne_of_none (show upd (upd H0 t _) l _ t = some (.tup [.int 0, .int 1]) by rw [upd_ne (ne_of_none upd_same nl), upd_same]) np), upd_ne (ne_of_none upd_same nl), upd_same]
  have hp : upd (upd (upd H0 t (.tup [.int 0, .int 1])) l (.lst [.ref t])) p (.lst (us ++ [.ref t])) p = some (.lst (us ++ [.ref t])) := upd_same
  generalize upd (upd (upd H0 t (.tup [.int 0, .int 1])) l (.lst [.ref t])) p (.lst (us ++ [.ref t])) = H1 at s1 ht hp
  have g1 := g0.same s1
  have d1 : DpAll K (hide M H1) (us ++ [.ref t]) (bowsD (bs ++ [(0, 1)])) := by
    have e : bowsD (bs ++ [(0, 1)]) = bowsD bs ++ [bowD (0, 1)] := List.map_append
    rw [e]
    exact dpAll_app g1.ub (.cons (bow_mk (b := (0, 1)) (SqT.of (hide_get (hide_new g0.dom nt) ht))) .nil)
  have ob1 : ∀ x ∈ bs ++ [((0, 1) : Bow)], okBow x := fun x hx => by
    rcases List.mem_append.mp hx with z | z
    · exact g0.ob x z
    · rw [List.mem_singleton.mp z]
      refine ⟨by decide, by unfold Big; decide, by unfold Big; decide⟩
  refine ⟨_, rfl, _, rfl, ?_⟩
  try unfold tCons tC tNil
  refine sp_done (T := T) (bs' := bs ++ [(0, 1)]) (ws' := ws) (ds := es) g1.dom hp d1 g1.hw g1.he (paired_ed g1.ue) ob1 (by rw [List.length_append]; show bs.length + 1 ≤ _; omega) g1.ow (by omega) oe (by omega) fun H2 o1 s2 fr1 B1 => ?_
  have a1 : Oth T [b] H2 bs ws es (.ref o1.p) := ⟨o1, _, _, rfl, .of fr1 (db g1) mb B1, oe, ⟨ob1, by rw [List.length_append]; show bs.length + 1 ≤ _; omega, canon_self _⟩, fun z => by
    have := congrArg (fun s : Stt => s.1.length) z.2
    simp at this⟩
  have s02 := s1.trans s2
  have g2 := g0.same s02
  -- the other ways
  refine ⟨_, rfl, _, rfl, _, rfl, ?_⟩
  try unfold tCons tC tNil
  have ofar : ∀ x ∈ WAYSL.filter fun x => !ws.contains x, x ∈ WAYSL := fun x hx => (List.mem_filter.mp hx).1
  refine sp_done (T := T) (bs' := bs) (ws' := WAYSL.filter fun x => !ws.contains x) (ds := es) g2.dom g2.hb g2.ub (s02 _ _ hpf) g2.he (paired_ed g2.ue) g0.ob (by omega) ofar (Nat.le_trans (List.length_filter_le _ _) (by decide)) oe (by omega) fun H3 o2 s3 fr2 B2 => ?_
  have a2 : Oth T [b] H3 bs ws es (.ref o2.p) := ⟨o2, _, _, rfl, .of fr2 (db g2) mb B2, oe, ⟨g0.ob, by show bs.length ≤ 900; omega, canon_self _⟩, fun z => far_ne z.2⟩
  have s03 := s02.trans s3
  have g3 := g0.same s03
  have a1 := a1.kp (.of s3)
  -- all but the last
  refine ⟨_, rfl, _, rfl, _, rfl, _, rfl, _, rfl, pe, ve, rfl, SqL.of g3.he, fun p4 np4 => ?_⟩
  have ci : cutV ve none (some (-1)) = ve.take (es.length - 1) := by rw [← hvl]; exact cut_init
  have ci' : ∀ (i : Int), i = -1 → cutV ve none (some i) = ve.take (es.length - 1) := fun i hi => by rw [hi]; exact ci
  rw [ci' _ rfl]
  have s4 : Same H3 (upd H3 p4 (.lst (ve.take (es.length - 1)))) := same_upd (Same.refl _) np4
  have h4 : upd H3 p4 (.lst (ve.take (es.length - 1))) p4 = some (.lst (ve.take (es.length - 1))) := upd_same
  generalize upd H3 p4 (.lst (ve.take (es.length - 1))) = H4 at s4 h4
  have s04 := s03.trans s4
  have g4 := g0.same s04
  have dtk : ∀ {H' : Hp} (n : Nat), Eq0 T M H' b c pb pw pe us bs ws ve es k → DpAll K (hide M H') (ve.take n) ((es.take n).map edD) := fun n g => by rw [List.map_take]; exact dpAll_take n g.ue
  have ddr : ∀ {H' : Hp} (n : Nat), Eq0 T M H' b c pb pw pe us bs ws ve es k → DpAll K (hide M H') (ve.drop n) ((es.drop n).map edD) := fun n g => by rw [List.map_drop]; exact dpAll_drop n g.ue
  try unfold tCons tC tNil
  refine sp_done (T := T) (bs' := bs) (ws' := ws) (ds := es.take (es.length - 1)) g4.dom g4.hb g4.ub g4.hw h4 (paired_ed (dtk _ g4)) g0.ob (by omega) g0.ow (by omega) (okTake oe _) (by rw [List.length_take]; omega) fun H5 o3 s5 fr3 B3 => ?_
  have a3 : Oth T [b] H5 bs ws es (.ref o3.p) := ⟨o3, _, _, rfl, .of fr3 (db g4) mb B3, okTake oe _, g0.os, fun z => len_neq (by rw [List.length_take]; omega) z.1⟩
  have s05 := s04.trans s5
  have g5 := g0.same s05
  have a1 := a1.kp (.of (s4.trans s5))
  have a2 := a2.kp (.of (s4.trans s5))
  refine ⟨by show 3 ≤ sizeLine; decide, fun lo1 nlo1 => ?_⟩
  have s6 : Same H5 (upd H5 lo1 (.lst [.ref o1.p, .ref o2.p, .ref o3.p])) := same_upd (Same.refl _) nlo1
  have h6 : upd H5 lo1 (.lst [.ref o1.p, .ref o2.p, .ref o3.p]) lo1 = some (.lst [.ref o1.p, .ref o2.p, .ref o3.p]) := upd_same
  generalize upd H5 lo1 (.lst [.ref o1.p, .ref o2.p, .ref o3.p]) = H6 at s6 h6
  have s06 := s05.trans s6
  have g6 := g0.same s06
  have a1 := a1.kp (.of s6)
  have a2 := a2.kp (.of s6)
  have a3 := a3.kp (.of s6)
  -- another last one
  refine ⟨_, rfl, _, rfl, _, rfl, _, rfl, _, rfl, _, rfl, pe, ve, rfl, SqL.of g6.he, fun p7 np7 => ?_⟩
  rw [ci' _ rfl]
  refine ⟨_, rfl, by show 1 ≤ sizeLine; decide, fun l7 nl7 => ⟨p7, l7, ve.take (es.length - 1), [v], rfl, rfl, ?_, upd_same, ?_, fun q7 nq7 => ?_⟩⟩
  · rw [upd_ne (ne_of_none upd_same nl7), upd_same]
  · rw [List.length_take, PySem.sizeLine_eq]
    show min _ _ + 1 ≤ _
    omega
  have s7 : Same H6 (upd (upd (upd H6 p7 (.lst (ve.take (es.length - 1)))) l7 (.lst [v])) q7 (.lst (ve.take (es.length - 1) ++ [v]))) := same_upd (same_upd (same_upd (Same.refl _) np7) nl7) nq7
  have h7 : upd (upd (upd H6 p7 (.lst (ve.take (es.length - 1)))) l7 (.lst [v])) q7 (.lst (ve.take (es.length - 1) ++ [v])) q7 = some (.lst (ve.take (es.length - 1) ++ [v])) := upd_same
  generalize upd (upd (upd H6 p7 (.lst (ve.take (es.length - 1)))) l7 (.lst [v])) q7 (.lst (ve.take (es.length - 1) ++ [v])) = H7 at s7 h7
  have s07 := s06.trans s7
  have g7 := g0.same s07
  have hv7 := dp_up (hide_up (M := M) s07) hv
  try unfold tCons tC tNil
  refine sp_done (T := T) (bs' := bs) (ws' := ws) (ds := es.take (es.length - 1) ++ [e]) g7.dom g7.hb g7.ub g7.hw h7 (paired_ed (by rw [List.map_append]; exact dpAll_app (dtk _ g7) (.cons hv7 .nil))) g0.ob (by omega) g0.ow (by omega) (fun x hx => ?_) (by rw [List.length_append, List.length_take]; show min _ _ + 1 ≤ _; omega) fun H8 o4 s8 fr4 B4 => ?_
  · rcases List.mem_append.mp hx with z | z
    · exact okTake oe _ x z
    · rw [List.mem_singleton.mp z]; exact he
  have a4 : Oth T [b] H8 bs ws es (.ref o4.p) := ⟨o4, _, _, rfl, .of fr4 (db g7) mb B4, fun x hx => by
    rcases List.mem_append.mp hx with z | z
    · exact okTake oe _ x z
    · rw [List.mem_singleton.mp z]; exact he, g0.os, fun z => mem_neq (List.mem_append_right _ List.mem_cons_self) hn z.1⟩
  have s68 := s7.trans s8
  have s08 := s06.trans s68
  have g8 := g0.same s08
  -- the last one twice
  refine ⟨_, rfl, _, rfl, _, rfl, _, rfl, _, rfl, _, rfl, pe, ve, rfl, SqL.of g8.he, fun p9 np9 => ?_⟩
  have cl : ∀ (i : Int), i = -1 → cutV ve (some i) none = ve.drop (es.length - 1) := fun i hi => by rw [hi, ← hvl]; exact cut_last
  rw [cl _ rfl]
  refine ⟨pe, p9, ve, ve.drop (es.length - 1), rfl, rfl, same_upd (Same.refl _) np9 _ _ g8.he, upd_same, by rw [List.length_drop, PySem.sizeLine_eq]; omega, fun q9 nq9 => ?_⟩
  have s9 : Same H8 (upd (upd H8 p9 (.lst (ve.drop (es.length - 1)))) q9 (.lst (ve ++ ve.drop (es.length - 1)))) := same_upd (same_upd (Same.refl _) np9) nq9
  have h9 : upd (upd H8 p9 (.lst (ve.drop (es.length - 1)))) q9 (.lst (ve ++ ve.drop (es.length - 1))) q9 = some (.lst (ve ++ ve.drop (es.length - 1))) := upd_same
  generalize upd (upd H8 p9 (.lst (ve.drop (es.length - 1)))) q9 (.lst (ve ++ ve.drop (es.length - 1))) = H9 at s9 h9
  have s09 := s08.trans s9
  have g9 := g0.same s09
  have o5e : okEds (es ++ es.drop (es.length - 1)) := fun x hx => (List.mem_append.mp hx).elim (oe x) fun z => oe x (List.mem_of_mem_drop z)
  try unfold tCons tC tNil
  refine sp_done (T := T) (bs' := bs) (ws' := ws) (ds := es ++ es.drop (es.length - 1)) g9.dom g9.hb g9.ub g9.hw h9 (paired_ed (by rw [List.map_append]; exact dpAll_app g9.ue (ddr _ g9))) g0.ob (by omega) g0.ow (by omega) o5e (by rw [List.length_append, List.length_drop]; omega) fun H10 o5 s10 fr5 B5 => ?_
  have a5 : Oth T [b] H10 bs ws es (.ref o5.p) := ⟨o5, _, _, rfl, .of fr5 (db g9) mb B5, o5e, g0.os, fun z => len_neq (by rw [List.length_append, List.length_drop]; omega) z.1⟩
  have s810 := s9.trans s10
  have s610 := s68.trans s810
  have a4 := a4.kp (.of s810)
  have s010 := s06.trans s610
  have h10 := s610 _ _ h6
  refine ⟨by show 2 ≤ sizeLine; decide, fun l11 nl11 => ⟨lo1, l11, _, _, rfl, rfl, same_upd (Same.refl _) nl11 _ _ h10, upd_same, by show 3 + 2 ≤ sizeLine; decide, fun lo nlo => ?_⟩⟩
  have sa : Same H10 (upd H10 l11 (.lst [.ref o4.p, .ref o5.p])) := same_upd (Same.refl _) nl11
  have s11 : Same H10 (upd (upd H10 l11 (.lst [.ref o4.p, .ref o5.p])) lo (.lst ([.ref o1.p, .ref o2.p, .ref o3.p] ++ [.ref o4.p, .ref o5.p]))) := same_upd sa nlo
  have h11 : upd (upd H10 l11 (.lst [.ref o4.p, .ref o5.p])) lo (.lst ([.ref o1.p, .ref o2.p, .ref o3.p] ++ [.ref o4.p, .ref o5.p])) lo = some (.lst [.ref o1.p, .ref o2.p, .ref o3.p, .ref o4.p, .ref o5.p]) := upd_same
  have nlo10 := sa.free nlo
  generalize upd (upd H10 l11 (.lst [.ref o4.p, .ref o5.p])) lo (.lst ([.ref o1.p, .ref o2.p, .ref o3.p] ++ [.ref o4.p, .ref o5.p])) = H11 at s11 h11
  have nlo0 := s010.free nlo10
  have one : ∀ {u : V}, Oth T [b] H10 bs ws es u → Oth T [lo, b] H11 bs ws es u := fun ⟨o, s, ds, e, h1, r⟩ => ⟨o, s, ds, e, h1.one s11 nlo10, r⟩
  have a1 := one (a1.kp (.of s610))
  have a2 := one (a2.kp (.of s610))
  have a3 := one (a3.kp (.of s610))
  have a4 := one a4
  have a5 := one a5
  have s011 := s010.trans s11
  have g11 := g0.same s011
  have f11 : Eq0 T (lo :: M) H11 b c pb pw pe us bs ws ve es k := g0.one s011 nlo0 h11
  have hv11 := dp_up (hide_one (M := M) s011 nlo0) hv
  have nlob := g0.bag.ne nlo0
  -- a place, and the ways now
  refine ⟨_, rfl, _, rfl, pe, ve, rfl, .inl (SqL.of g11.he), b, c, _, rfl, g11.bag, by omega, by omega, fun H12 d k12 hB12 d0 d1' => ?_⟩
  obtain ⟨j, rfl⟩ := Int.eq_ofNat_of_zero_le d0
  have hj : j < es.length := by omega
  have f12 := f11.kp k12 hB12
  have hv12 := dp_up (k12.hide (M := lo :: M) fun a h => by rw [List.mem_singleton.mp h]; exact List.mem_cons_of_mem _ g0.bM) hv11
  have k012 : Kp [b] H0 H12 := (Kp.of s011).trans k12
  have h12 := k12.at (by simpa using nlob.1) h11
  have upA : ∀ {u : V} {H' H'' : Hp}, Kp [lo, b] H' H'' → Oth T [lo, b] H' bs ws es u → Oth T [lo, b] H'' bs ws es u := fun kp h => h.kp kp
  have k12' : Kp [lo, b] H11 H12 := k12.mono (by simp)
  obtain ⟨dk, obk⟩ := f12.bk.ob
  have Bk := f12.bk
  rw [trail_last] at Bk
  refine ⟨_, rfl, k.p, dk, _, rfl, obk, lo :: M, k, _, _, _, _, rfl, Bk, fun kk hkk => ?_⟩
  have hkk0 := kind_up hide_sub hkk
  obtain ⟨pk, dk', lk, rfl, y1, y2⟩ := id hkk0
  refine ⟨pk, dk', _, rfl, y1, kf_no (by decide +kernel), _, _, rfl, hkk0, fun pn npn => ⟨by show 2 ≤ sizeLine; decide, fun t13 nt13 => ?_⟩⟩
  have sb : Same H12 (upd H12 pn (.lst ((fin (s0 bs ws) es).2.map V.str))) := same_upd (Same.refl _) npn
  have s13 : Same H12 (upd (upd H12 pn (.lst ((fin (s0 bs ws) es).2.map V.str))) t13 (.tup [.int ((j : Nat) : Int), .ref pn])) := same_upd sb nt13
  have hpn : upd (upd H12 pn (.lst ((fin (s0 bs ws) es).2.map V.str))) t13 (.tup [.int ((j : Nat) : Int), .ref pn]) pn = some (.lst ((fin (s0 bs ws) es).2.map V.str)) := by rw [upd_ne (ne_of_none upd_same nt13), upd_same]
  have npnb := (hB12.ne npn).1
  have nplo : pn ≠ lo := (ne_of_none h12 npn).symm
  have ht13 : upd (upd H12 pn (.lst ((fin (s0 bs ws) es).2.map V.str))) t13 (.tup [.int ((j : Nat) : Int), .ref pn]) t13 = some (.tup [.int ((j : Nat) : Int), .ref pn]) := upd_same
  refine ⟨t13, _, rfl, SqT.of ht13, rfl, _, _, rfl, _, _, rfl, rfl, ?_⟩
  generalize upd (upd H12 pn (.lst ((fin (s0 bs ws) es).2.map V.str))) t13 (.tup [.int ((j : Nat) : Int), .ref pn]) = H13 at s13 hpn ht13
  have f13 := f12.same s13
  have h13 := s13 _ _ h12
  have hv13 := dp_up (hide_up (M := lo :: M) s13) hv12
  have k013 := k012.snd s13
  have k1113 : Kp [lo, b] H11 H13 := k12'.snd s13
  -- one in the middle changed
  refine ⟨_, rfl, .inl ⟨rfl, _, SqL.of h13⟩, _, rfl, _, rfl, _, rfl, _, rfl, _, rfl, pe, ve, rfl, SqL.of f13.he, fun p14 np14 => ?_⟩
  rw [cut_take (k := j) (by omega)]
  refine ⟨_, rfl, by show 1 ≤ sizeLine; decide, fun l14 nl14 => ⟨p14, l14, ve.take j, [v], rfl, rfl, ?_, upd_same, ?_, fun q14 nq14 => ?_⟩⟩
  · rw [upd_ne (ne_of_none upd_same nl14), upd_same]
  · rw [List.length_take, PySem.sizeLine_eq]
    show min _ _ + 1 ≤ _
    omega
  have s14 : Same H13 (upd (upd (upd H13 p14 (.lst (ve.take j))) l14 (.lst [v])) q14 (.lst (ve.take j ++ [v]))) := same_upd (same_upd (same_upd (Same.refl _) np14) nl14) nq14
  have h14 : upd (upd (upd H13 p14 (.lst (ve.take j))) l14 (.lst [v])) q14 (.lst (ve.take j ++ [v])) q14 = some (.lst (ve.take j ++ [v])) := upd_same
  generalize upd (upd (upd H13 p14 (.lst (ve.take j))) l14 (.lst [v])) q14 (.lst (ve.take j ++ [v])) = H14 at s14 h14
  refine ⟨_, rfl, _, rfl, _, _, rfl, rfl, _, rfl, pe, ve, rfl, SqL.of (s14 _ _ f13.he), fun p15 np15 => ?_⟩
  have cd : ∀ (i : Int), i = ((j + 1 : Nat) : Int) → cutV ve (some i) none = ve.drop (j + 1) := fun i hi => by rw [hi]; exact cut_drop (by omega)
  rw [cd ((j : Int) + 1) (by omega)]
  refine ⟨q14, p15, ve.take j ++ [v], ve.drop (j + 1), rfl, rfl, same_upd (Same.refl _) np15 _ _ h14, upd_same, by rw [List.length_append, List.length_take, List.length_drop, PySem.sizeLine_eq]; show min _ _ + 1 + _ ≤ _; omega, fun q15 nq15 => ?_⟩
  have s15 : Same H14 (upd (upd H14 p15 (.lst (ve.drop (j + 1)))) q15 (.lst (ve.take j ++ [v] ++ ve.drop (j + 1)))) := same_upd (same_upd (Same.refl _) np15) nq15
  have h15 : upd (upd H14 p15 (.lst (ve.drop (j + 1)))) q15 (.lst (ve.take j ++ [v] ++ ve.drop (j + 1))) q15 = some (.lst (ve.take j ++ [v] ++ ve.drop (j + 1))) := upd_same
  generalize upd (upd H14 p15 (.lst (ve.drop (j + 1)))) q15 (.lst (ve.take j ++ [v] ++ ve.drop (j + 1))) = H15 at s15 h15
  have s1315 := s14.trans s15
  have f15 := f13.same s1315
  have hv15 := dp_up (hide_up (M := lo :: M) s1315) hv13
  have o6e : okEds (es.take j ++ [e] ++ es.drop (j + 1)) := fun x hx => by
    rcases List.mem_append.mp hx with z | z
    · rcases List.mem_append.mp z with z | z
      · exact okTake oe _ x z
      · rw [List.mem_singleton.mp z]; exact he
    · exact oe x (List.mem_of_mem_drop z)
  have dtk' : DpAll K (hide (lo :: M) H15) (ve.take j) ((es.take j).map edD) := by rw [List.map_take]; exact dpAll_take j f15.ue
  have ddr' : DpAll K (hide (lo :: M) H15) (ve.drop (j + 1)) ((es.drop (j + 1)).map edD) := by rw [List.map_drop]; exact dpAll_drop _ f15.ue
  try unfold tCons tC tNil
  refine sp_done (T := T) (bs' := bs) (ws' := ws) (ds := es.take j ++ [e] ++ es.drop (j + 1)) f15.dom f15.hb f15.ub f15.hw h15 (paired_ed (by rw [List.map_append, List.map_append]; exact dpAll_app (dpAll_app dtk' (.cons hv15 .nil)) ddr')) g0.ob (by omega) g0.ow (by omega) o6e (by rw [List.length_append, List.length_append, List.length_take, List.length_drop]; show min _ _ + 1 + _ ≤ _; omega) fun H16 o6 s16 fr6 B6 => ?_
  have dlb : Dom [lo, b] H15 := .cons (s1315 _ _ h13) (.cons f15.bag.live.1.choose_spec .nil)
  have a6 : Oth T [lo, b] H16 bs ws es (.ref o6.p) := ⟨o6, _, _, rfl, .of fr6 dlb (fun a ha => by
    rcases List.mem_cons.mp ha with z | z
    · rw [z]; exact List.mem_cons_self
    · rw [List.mem_singleton.mp z]; exact List.mem_cons_of_mem _ g0.bM) B6, o6e, g0.os, fun z => mem_neq (List.mem_append_left _ (List.mem_append_right _ List.mem_cons_self)) hn z.1⟩
  have s1316 := s1315.trans s16
  have h16 := s1316 _ _ h13
  have k016 := k013.snd s1316
  have k1116 := k1113.snd s1316
  refine ⟨lo, _, _, rfl, rfl, h16, by show 5 < sizeLine; decide, ?_⟩
  have kz : Kp [lo, b] H16 (upd H16 lo (.lst ([.ref o1.p, .ref o2.p, .ref o3.p, .ref o4.p, .ref o5.p] ++ [.ref o6.p]))) := Kp.refl.upd (.inl (by simp))
  have k017 : Kp [b] H0 (upd H16 lo (.lst ([.ref o1.p, .ref o2.p, .ref o3.p, .ref o4.p, .ref o5.p] ++ [.ref o6.p]))) := k016.fresh nlo0
  have B17 : BagAt (upd H16 lo (.lst ([.ref o1.p, .ref o2.p, .ref o3.p, .ref o4.p, .ref o5.p] ++ [.ref o6.p]))) b c := (f13.bag.same s1316).out nlob
  have h17 : upd H16 lo (.lst ([.ref o1.p, .ref o2.p, .ref o3.p, .ref o4.p, .ref o5.p] ++ [.ref o6.p])) lo = some (.lst [.ref o1.p, .ref o2.p, .ref o3.p, .ref o4.p, .ref o5.p, .ref o6.p]) := upd_same
  have hpn17 : upd H16 lo (.lst ([.ref o1.p, .ref o2.p, .ref o3.p, .ref o4.p, .ref o5.p] ++ [.ref o6.p])) pn = some (.lst ((fin (s0 bs ws) es).2.map V.str)) := by rw [upd_ne nplo]; exact s1316 _ _ hpn
  generalize upd H16 lo (.lst ([.ref o1.p, .ref o2.p, .ref o3.p, .ref o4.p, .ref o5.p] ++ [.ref o6.p])) = H17 at kz k017 B17 h17 hpn17
  have g17 := g0.kp k017 B17
  have kAll := k1116.trans kz
  have all : ∀ u ∈ [V.ref o1.p, .ref o2.p, .ref o3.p, .ref o4.p, .ref o5.p, .ref o6.p], Oth T [lo, b] H17 bs ws es u := fun u hu => by
    simp only [List.mem_cons, List.not_mem_nil, or_false] at hu
    rcases hu with rfl | rfl | rfl | rfl | rfl | rfl
    · exact a1.kp kAll
    · exact a2.kp kAll
    · exact a3.kp kAll
    · exact a4.kp kAll
    · exact a5.kp kAll
    · exact a6.kp kz
  -- none of them as the book
  refine ⟨_, rfl, lo, rfl, ⟨_, SqL.of h17⟩, fun D hD => ?_⟩
  refine lc_list (K := K) (xs := [V.ref o1.p, .ref o2.p, .ref o3.p, .ref o4.p, .ref o5.p, .ref o6.p]) (fun i H' => Same H17 H' ∧ H' D = some (.lst [])) ⟨same_upd (Same.refl _) hD, upd_same⟩ (fun i H' _ z => SqL.of (z.1 _ _ h17)) (fun i u H' hu z => ?_) (fun H' z => ?_)
  · obtain ⟨sH, hDH⟩ := z
    obtain ⟨o, so, ds, rfl, hO, od, os, hne⟩ := (all u (List.mem_of_getElem? hu)).kp (.of sH)
    have gH := g17.same sH
    have dne : decide (ds = es ∧ so = s0 bs ws) = false := decide_eq_false hne
    obtain ⟨dxo, obo⟩ := hO.ob
    obtain ⟨dxk, obk'⟩ := gH.bk.ob
    refine ⟨rfl, ?_⟩
    refine ⟨_, rfl, _, rfl, o.p, dxo, _, .ref T.book.C, rfl, obo, tyBook gH.bk, T.nf1, ?_⟩
    try unfold tCons tC tNil
    refine sp_oth (T := T) (v := .non) gH hO od os fun Ha sa => ⟨_, rfl, ?_⟩
    rw [dne]
    refine cF rfl ?_
    have hOa := hO.same sa
    have gHa := gH.same sa
    refine ⟨_, rfl, _, rfl, o.p, dxo, _, .ref T.book.C, rfl, sa _ _ obo, tyBook gHa.bk, T.nf1, ?_⟩
    try unfold tCons tC tNil
    refine sp_oth (T := T) (v := .non) gHa hOa od os fun Hb sb => ⟨_, rfl, _, rfl, ?_⟩
    rw [dne]
    refine cF rfl ?_
    have hOb := hOa.same sb
    have gHb := gHa.same sb
    refine ⟨_, rfl, _, rfl, k.p, dxk, _, .ref T.book.C, rfl, (sa.trans sb) _ _ obk', hOb.ty, T.nf1, ?_⟩
    try unfold tCons tC tNil
    refine sp_oth2 (T := T) (v := .non) gHb hOb od os fun Hc sc => ⟨_, rfl, ?_⟩
    rw [decide_eq_false fun z => hne ⟨z.1.symm, z.2.symm⟩]
    refine cF rfl ?_
    exact ⟨sH.trans ((sa.trans sb).trans sc), sc _ _ (sb _ _ (sa _ _ hDH))⟩
  · obtain ⟨sH, hDH⟩ := z
    refine ⟨Nat.zero_le _, fun n0 nn => ?_⟩
    have s18 : Same H' (upd H' n0 (.lst [])) := same_upd (Same.refl _) nn
    refine ⟨.list [], .list [], .lst (SqL.of (s18 _ _ hDH)) .nil, .lst (SqL.of upd_same) .nil, by decide, by decide, _, rfl, cF rfl ?_⟩
    have s1718 := sH.trans s18
    exact hGo _ pn _ _ _ _ _ ((k0.trans k017).snd s1718) (g17.same s1718) (s1718 _ _ hpn17) npnb

theorem ok_equals : FnOk P w K mg base CX0 12 T.equals.f T.equals.fd ["_law_bag_here", "_law_bows_here", "_law_ways", "_law_edits_here", "_law_book"] (spEquals T) := by
  refine T.equals.F.ok sc_equals (fun vs H Q E h => ?_) (fun cdv A outer sh H vs Q E hr h => ?_)
  · obtain ⟨M, b, c, pb, pw, pe, us, bs, ws, ve, es, k, rfl, _⟩ := h
    rfl
  · obtain ⟨M, b, c, pb, pw, pe, us, bs, ws, ve, es, k, rfl, g, q⟩ := h
    have gT : FnOk P w K mg base CX0 1 T.take.f T.take.fd ["_law_bag_here", "_law_many"] spTake := ok_take T
    have gO : FnOk P w K mg base CX0 2 T.other.f T.other.fd ["_law_ways"] spOther := ok_other T
    have hr1 : Room 1 _ := hr.mono (by decide)
    have hr2 : Room 2 _ := hr.mono (by decide)
    obtain ⟨tl, hT, hGo⟩ := equals_mid (base := base) T (H := H) (E := E) (outer := outer) (M := M) (c := c) (pb := pb) (pw := pw) (pe := pe) (us := us) (bs := bs) (ws := ws) (ve := ve) (es := es) (k := k) hr q
    refine ⟨_, pss_cons (ps_set (i := 5) sc_equals.nd rfl (Or.inl rfl) (pe_call gO hr2 (by rfl) T.other.mg T.other.F.kp T.other.b .nil pass0 (pa_cons (pv 2) pa_nil)))
      (pss_cons (ps_set (i := 6) sc_equals.nd rfl (Or.inl rfl) (pe_ifExp (pt_cmpR op_eq (pe_call gT hr1 (by rfl) T.take.mg T.take.F.kp T.take.b .nil pass0 (pa_cons (pv 0) (pa_cons pe_int pa_nil))) pe_int (nomark _))
          (pe_tup (pa_cons pe_str (pa_cons (pe_tup (pa_cons pe_int (pa_cons pe_int pa_nil))) pa_nil)))
          (pe_tup (pa_cons pe_str (pa_cons (pe_tup (pa_cons (pe_tup (pa_cons pe_int (pa_cons pe_int pa_nil))) pa_nil)) pa_nil))))) hT), ?_⟩
    refine ⟨_, rfl, pw, ws, rfl, g.hw, fun H1 pf s1 npf hpf => ?_⟩
    have g1 := g.same s1
    have npb := (g.bag.ne npf).1
    refine ⟨_, rfl, b, c, 2, rfl, g1.bag, by decide, by decide, fun H2 d k2 hB2 d0 d1 => ⟨rfl, _, rfl, ?_⟩⟩
    have g2 := g1.kp k2 hB2
    have hpf2 := k2.at (by simpa using npb) hpf
    have k02 : Kp [b] H H2 := (Kp.of s1).trans k2
    refine ite2 (fun _ => ?_) (fun _ => ?_)
    · refine ⟨by show 2 ≤ sizeLine; decide, fun t1 n1 => ⟨by show 2 ≤ sizeLine; decide, fun t2 n2 => ?_⟩⟩
      have sa : Same H2 (upd H2 t1 (.tup [.int 0, .int 1])) := same_upd (Same.refl _) n1
      have sb : Same H2 (upd (upd H2 t1 (.tup [.int 0, .int 1])) t2 (.tup [.str "put", .ref t1])) := same_upd sa n2
      refine hGo _ pf _ (.put (0, 1)) (k02.snd sb) (g2.same sb) (sb _ _ hpf2) npb (.tup (SqT.of (hide_get (hide_new g2.dom (sa.free n2)) upd_same)) (.cons (.str _) (.cons (bow_mk (b := (0, 1)) (SqT.of (hide_get (hide_new g2.dom n1) ?_))) .nil))) ⟨by decide, by unfold Big; decide, by unfold Big; decide⟩ (fun z => (g.od _ z).2.1 (0, 1) rfl)
      rw [upd_ne (ne_of_none upd_same n2), upd_same]
    · refine ⟨by show 2 ≤ sizeLine; decide, fun t1 n1 => ⟨by show 1 ≤ sizeLine; decide, fun t2 n2 => ⟨by show 2 ≤ sizeLine; decide, fun t3 n3 => ?_⟩⟩⟩
      have sa : Same H2 (upd H2 t1 (.tup [.int 0, .int 77])) := same_upd (Same.refl _) n1
      have sb : Same H2 (upd (upd H2 t1 (.tup [.int 0, .int 77])) t2 (.tup [.ref t1])) := same_upd sa n2
      have sc : Same H2 (upd (upd (upd H2 t1 (.tup [.int 0, .int 77])) t2 (.tup [.ref t1])) t3 (.tup [.str "row", .ref t2])) := same_upd sb n3
      have n12 : t1 ≠ t2 := ne_of_none upd_same n2
      have n23 : t2 ≠ t3 := ne_of_none upd_same n3
      have n13 : t1 ≠ t3 := ne_of_none (show upd (upd H2 t1 (.tup [.int 0, .int 77])) t2 (.tup [.ref t1]) t1 = some (.tup [.int 0, .int 77]) by rw [upd_ne n12, upd_same]) n3
      refine hGo _ pf _ (.row [(0, 77)]) (k02.snd sc) (g2.same sc) (sc _ _ hpf2) npb (.tup (SqT.of (hide_get (hide_new g2.dom (sb.free n3)) upd_same)) (.cons (.str _) (.cons (.tup (xs := [.ref t1]) (SqT.of (hide_get (hide_new g2.dom (sa.free n2)) ?_)) (.cons (bow_mk (b := (0, 77)) (SqT.of (hide_get (hide_new g2.dom n1) ?_))) .nil)) .nil))) ⟨fun x hx => ?_, by decide⟩ (fun z => (g.od _ z).2.2 rfl)
      · rw [upd_ne n23, upd_same]
      · rw [upd_ne n13, upd_ne n12, upd_same]
      · rw [List.mem_singleton.mp hx]
        exact ⟨by decide, by unfold Big; decide, by unfold Big; decide⟩
end
end Bk

/-! The walk: the law. -/
namespace Bk
open PySem L2 L2.BK

theorem trail_nil (s : Stt) : trail s [] = [s] := rfl
theorem dpAll_rep {K : PySem.W.Frag} {H : Hp} {vs : List V} {ds : List PyData} (h : DpAll K H vs ds) : ∀ n : Nat, DpAll K H (List.replicate n vs).flatten (List.replicate n ds).flatten
  | 0 => .nil
  | n + 1 => by
    rw [List.replicate_succ, List.replicate_succ, List.flatten_cons, List.flatten_cons]
    exact dpAll_app h (dpAll_rep h n)
theorem rep_len {α : Type} (n : Nat) (xs : List α) : ((List.replicate n xs).flatten).length = n * xs.length := by
  rw [List.length_flatten, List.map_replicate, List.sum_replicate_nat]

section
variable {P : Program} {w : World} {K : PySem.W.Frag} {mg : Str → Option Value} {base : Heap} (T : Txt P w K mg)
def spLaw (K : PySem.W.Frag) : Sp := fun vs H Q _ => ∃ (a : Addr) (ns : List Int), vs = [.ref a] ∧ SqL K H a (ns.map V.int) ∧ ns.length ≤ 63 ∧ ∀ H', Q (.bl true) H'
abbrev nLaw : List Str := ["_law_script", "_law_bag_here", "_law_turn", "_law_bows_here", "_law_ways", "_law_edits_here", "_law_first", "_law_book", "_law_faces", "_law_edit", "_law_spot", "_law_k"]
def forBody : List Stmt → List Stmt
  | .For _ _ b _ _ :: _ => b
  | _ => []
theorem faces_snoc {s : Stt} {es : List Ed} {i : Nat} (h : i ≤ es.length) : (facesD s es).take (i + 1) = (facesD s es).take i ++ [faceJ s es i] := by
  have hl : i < (facesD s es).length := by rw [facesD_len]; omega
  have z := facesD_get (s := s) (es := es) h
  rw [List.getElem?_eq_getElem hl] at z
  rw [take_snoc hl, Option.some.inj z]
/-- what the turns of the loop over the edits keep -/
structure Lp (M : List Addr) (H3 H : Hp) (b c pb pw pe pf : Addr) (us : List V) (bs : List Bow) (ws : List Str) (ve : List V) (es : List Ed) (f k : Bks) (vf : List V) (i : Nat) : Prop where
  fr : ∀ a ∈ k.fp, H3 a = none
  lv : ∀ a o, H3 a = some o → ∃ u, H a = some u
  npf : pf ∉ k.fp
  pfM : pf ∈ M
  bM : b ∈ M
  fM : ∀ a ∈ f.fp, a ∈ M
  dom : Dom M H
  bk : BookAt T M H k (trail (s0 bs ws) (es.take i)) (es.take i) []
  ft : BookAt T M H f (trail (s0 bs ws) []) [] []
  hpf : H pf = some (.lst vf)
  dvf : DpAll K (hide M H) vf ((facesD (s0 bs ws) es).take (i + 1))
  dve : DpAll K (hide M H) ve (es.map edD)
  dus : DpAll K (hide M H) us (bowsD bs)
  bag : BagAt H b c
  hpb : H pb = some (.lst us)
  hpw : H pw = some (.lst (ws.map V.str))
  hpe : H pe = some (.lst ve)
/-- what stands ready for the checks -/
structure Rdy (M : List Addr) (H : Hp) (b c pe pf : Addr) (s : Stt) (ve : List V) (es : List Ed) (f k : Bks) (vf : List V) : Prop where
  g : Given K M H s es pe pf ve vf
  ft : BookAt T M H f (trail s []) [] []
  bag : BagAt H b c
  bM : b ∈ M
  kM : ∀ a ∈ k.fp, a ∈ M
  kb : b ∉ k.fp
  kc : c ∉ k.fp
  kf : ∀ a ∈ k.fp, a ∉ f.fp
  kpe : pe ∉ k.fp
  kpf : pf ∉ k.fp
  fb : b ∉ f.fp
  nb : pe ≠ b ∧ pf ≠ b
variable {T}
theorem Rdy.kb1 {M : List Addr} {H H' : Hp} {b c pe pf : Addr} {s : Stt} {ve : List V} {es : List Ed} {f k : Bks} {vf : List V} (r : Rdy T M H b c pe pf s ve es f k vf) (kp : Kp [b] H H') (B : BagAt H' b c) : Rdy T M H' b c pe pf s ve es f k vf := by
  have hF : ∀ a ∈ [b], a ∈ M := fun a h => by rw [List.mem_singleton.mp h]; exact r.bM
  exact ⟨r.g.kp kp hF (by simpa using r.nb.1) (by simpa using r.nb.2), r.ft.kp kp hF fun a h => by rw [List.mem_singleton.mp h]; exact r.fb, B, r.bM, r.kM, r.kb, r.kc, r.kf, r.kpe, r.kpf, r.fb, r.nb⟩
theorem Rdy.kp {M : List Addr} {H H' : Hp} {b c pe pf : Addr} {s : Stt} {ve : List V} {es : List Ed} {f k : Bks} {vf : List V} (r : Rdy T M H b c pe pf s ve es f k vf) (kp : Kp k.ops H H') : Rdy T M H' b c pe pf s ve es f k vf :=
  ⟨r.g.kp kp (fun a h => r.kM a (ops_fp a h)) (fun h => r.kpe (ops_fp _ h)) (fun h => r.kpf (ops_fp _ h)), r.ft.kp kp (fun a h => r.kM a (ops_fp a h)) fun a h => r.kf a (ops_fp a h),
    r.bag.kp kp (fun h => r.kb (ops_fp _ h)) (fun h => r.kc (ops_fp _ h)), r.bM, r.kM, r.kb, r.kc, r.kf, r.kpe, r.kpf, r.fb, r.nb⟩
theorem Rdy.same {M : List Addr} {H H' : Hp} {b c pe pf : Addr} {s : Stt} {ve : List V} {es : List Ed} {f k : Bks} {vf : List V} (r : Rdy T M H b c pe pf s ve es f k vf) (s' : Same H H') : Rdy T M H' b c pe pf s ve es f k vf := r.kp (.of s')
variable (T)

theorem sc_law : FnScope nLaw ["_law_script"] (defScope s_law) := ⟨rfl, rfl, rfl, by decide +kernel, rfl, by decide +kernel, by decide +kernel⟩
theorem law_tail (T : Txt P w K mg) {f0 : Addr} {cdv : Value} {A : Around} {outer : List Env} {sh : Shared} {H : Hp} {E : XK} (hg : (A.deeper (PyProof.Rows.envOfC ("law" : Str) (defScope s_law) sh.heap.objs.size f0 cdv)).guards = some []) (hr : Room 12 (A.deeper (PyProof.Rows.envOfC ("law" : Str) (defScope s_law) sh.heap.objs.size f0 cdv))) :
    ∃ t, PSs (cxOf CX0 P w K mg base nLaw "law" (defScope s_law) f0 cdv A outer sh H E) (List.drop 2 (forBody (List.drop 1 (defBody s_law)))) t ∧
      ∀ (D : Ends) (H0 : Hp) (a b c pb pw pe : Addr) (us : List V) (bs : List Bow) (ws : List Str) (ve : List V) (es : List Ed) (x2 x6 x7 x8 x9 x10 x11 : Option V),
        (∀ σ H', (∃ y2 y3 y4 y5 y6 y7 y8 y9 y10 y11, σ = [some (.ref a), some (.ref b), y2, y3, y4, y5, y6, y7, y8, y9, y10, y11]) → BagAt H' b c → D.nx σ H') →
        BagAt H0 b c → H0 pb = some (.lst us) → DpAll K (hide [b] H0) us (bowsD bs) → H0 pw = some (.lst (ws.map V.str)) → H0 pe = some (.lst ve) → DpAll K (hide [b] H0) ve (es.map edD) → (pb ≠ b ∧ pw ≠ b ∧ pe ≠ b) →
        (∀ x ∈ bs, okBow x) → bs.length ≤ 9 → (∀ x ∈ ws, x ∈ WAYSL) → ws.length ≤ 7 → (∀ e ∈ es, drawnE e) → 1 ≤ es.length → es.length ≤ 100 →
        t D [some (.ref a), some (.ref b), x2, some (.ref pb), some (.ref pw), some (.ref pe), x6, x7, x8, x9, x10, x11] H0 := by
  have gT : FnOk P w K mg base CX0 1 T.take.f T.take.fd ["_law_bag_here", "_law_many"] spTake := ok_take T
  have gt : FnOk P w K mg base CX0 2 T.turned.f T.turned.fd ["_law_book", "_law_way"] (spTurned T) := ok_turned T
  have gF : FnOk P w K mg base CX0 3 T.face.f T.face.fd ["_law_book"] (spFace T) := ok_face T
  have gC : FnOk P w K mg base CX0 3 T.bCopied.f T.bCopied.fd ["self"] (spBCopied T) := ok_bCopied T
  have gD : FnOk P w K mg base CX0 10 T.bDo.f T.bDo.fd ["self", "edit"] (spBDo T) := ok_bDo T
  have gR : FnOk P w K mg base CX0 5 T.rInit.f T.rInit.fd ["self", "bows"] (spRInit T) := ok_rInit T
  have gK : FnOk P w K mg base CX0 3 T.kInit.f T.kInit.fd ["self", "ways"] (spKInit T) := ok_kInit T
  have gB : FnOk P w K mg base CX0 1 T.bInit.f T.bInit.fd ["self", "row", "kind"] (spBInit T) := ok_bInit T
  have gEq : FnOk P w K mg base CX0 12 T.equals.f T.equals.fd ["_law_bag_here", "_law_bows_here", "_law_ways", "_law_edits_here", "_law_book"] (spEquals T) := ok_equals T
  have gTh : FnG P w K mg base CX0 6 T.through.f T.through.fd ["_law_book", "_law_first", "_law_edits_here", "_law_faces"] (spThrough T) := ok_through T
  have gCp : FnG P w K mg base CX0 6 T.copyR.f T.copyR.fd ["_law_book", "_law_first", "_law_edits_here", "_law_faces", "_law_spot"] (spCopyR T) := ok_copyR T
  have gLa : FnG P w K mg base CX0 11 T.lastR.f T.lastR.fd ["_law_book", "_law_edits_here", "_law_faces", "_law_spot"] (spLastR T) := ok_lastR T
  have hr1 : Room 1 _ := hr.mono (by decide)
  have hr2 : Room 2 _ := hr.mono (by decide)
  have hr3 : Room 3 _ := hr.mono (by decide)
  have hr6 : Room 6 _ := hr.mono (by decide)
  have hr10 : Room 10 _ := hr.mono (by decide)
  have hr11 : Room 11 _ := hr.mono (by decide)
  have hm6 : Room (5 + 1) _ := hr.mono (by decide)
  have hm4 : Room (3 + 1) _ := hr.mono (by decide)
  have hm2 : Room (1 + 1) _ := hr.mono (by decide)
  refine ⟨_, pss_cons (ps_set (i := 6) sc_law.nd rfl (Or.inl rfl) (pe_make bMk gB hm2 (by rfl) T.book.mg T.bInit.b .nil pass0
        (pa_cons (pe_make rMk gR hm6 (by rfl) T.row.mg T.rInit.b .nil pass0 (pa_cons (pv 3) pa_nil)) (pa_cons (pe_make kMk gK hm4 (by rfl) T.kind.mg T.kInit.b .nil pass0 (pa_cons (pv 4) pa_nil)) pa_nil))))
    (pss_cons (ps_set (i := 7) sc_law.nd rfl (Or.inl rfl) (pe_meth0 (pv 6) T.book.cl T.bCopied.m gC hr3 T.bCopied.b .nil pass0))
    (pss_cons (ps_set (i := 8) sc_law.nd rfl (Or.inl rfl) (pe_lst (pa_cons (pe_call gF hr3 (by rfl) T.face.mg T.face.F.kp T.face.b .nil pass0 (pa_cons (pv 7) pa_nil)) pa_nil)))
    (pss_cons (ps_for (passes_of rfl) rfl (pi_list (pv 5)) (pg_name (i := 9) sc_law.nd rfl (Or.inl rfl))
        (pss_cons (ps_expr (pe_meth (pv 7) T.book.cl T.bDo.m gD hr10 T.bDo.b .nil pass0 (pa_cons (pv 9) pa_nil)))
        (pss_one (ps_expr (pe_bm PySem.F.plainAttrs_list PySem.F.slot_list_append PySem.F.type_list_append mt_append (pv 8) (pa_cons (pe_call gF hr3 (by rfl) T.face.mg T.face.F.kp T.face.b .nil pass0 (pa_cons (pv 7) pa_nil)) pa_nil))))))
    (pss_cons (ps_if (PW.pt (pw_or (pt_not (pt_val (pe_call gEq hr (by rfl) T.equals.mg T.equals.F.kp T.equals.b .nil pass0 (pa_cons (pv 1) (pa_cons (pv 3) (pa_cons (pv 4) (pa_cons (pv 5) (pa_cons (pv 7) pa_nil))))))))
        (pw_or1 (pt_not (pt_val (pe_callG gTh hg hr6 (by rfl) T.through.mg T.through.F.kp T.through.b pass0 (pa_cons (pv 7) (pa_cons (pv 6) (pa_cons (pv 5) (pa_cons (pv 8) pa_nil)))))))))) (pss_one (ps_ret pe_bl)) pss_nil)
    (pss_cons (ps_set (i := 10) sc_law.nd rfl (Or.inl rfl) (pe_call gT hr1 (by rfl) T.take.mg T.take.F.kp T.take.b .nil pass0 (pa_cons (pv 1) (pa_cons (pe_callB call_len_seq (by rfl) T.n_len PySem.boot_len (pa_cons (pv 5) pa_nil)) pa_nil))))
    (pss_cons (ps_for (passes_of rfl) rfl (pi_range1 (by rfl) T.n_range (pa_cons (pv 10) pa_nil)) (pg_name (i := 11) sc_law.nd rfl (Or.inl rfl))
        (pss_one (ps_expr (pe_call gt hr2 (by rfl) T.turned.mg T.turned.F.kp T.turned.b .nil pass0 (pa_cons (pv 7) (pa_cons pe_int pa_nil))))))
    (pss_one (ps_if (PW.pt (pw_or (pt_not (pt_val (pe_callG gCp hg hr6 (by rfl) T.copyR.mg T.copyR.F.kp T.copyR.b pass0 (pa_cons (pv 7) (pa_cons (pv 6) (pa_cons (pv 5) (pa_cons (pv 8) (pa_cons (pv 10) pa_nil))))))))
        (pw_or1 (pt_not (pt_val (pe_callG gLa hg hr11 (by rfl) T.lastR.mg T.lastR.F.kp T.lastR.b pass0 (pa_cons (pv 7) (pa_cons (pv 5) (pa_cons (pv 8) (pa_cons (pv 10) pa_nil)))))))))) (pss_one (ps_ret pe_bl)) pss_nil)))))))), ?_⟩
  intro D H0 a b c pb pw pe us bs ws ve es x2 x6 x7 x8 x9 x10 x11 hD hB hpb hub hpw hpe hve nb ob lb ow lw od e1 e2
  have oe : okEds es := fun e h => (od e h).1
  have db : Dom [b] H0 := .cons hB.live.1.choose_spec .nil
  have os : okSt 100 (s0 bs ws) := ⟨ob, by show bs.length ≤ 100; omega, canon_self _⟩
  -- the first book
  refine ⟨_, rfl, fun xr dr nr ndr ner => ?_⟩
  refine made_row2 (T := T) nr ndr ner (.inl (SqL.of hpb)) (dpAll_up hide_sub hub) ob (by omega) fun H1 s1 hR => ⟨rfl, ?_⟩
  refine ⟨_, rfl, fun xk dk nk ndk nek => ?_⟩
  refine made_kind2 (T := T) nk ndk nek (SqL.of (s1 _ _ hpw)) ow (by omega) fun H2 s2 hK => ⟨rfl, ?_⟩
  have s12 := s1.trans s2
  have hR0 : RowAt T H2 (.ref xr) bs := row_up s2 (row_up hide_sub (hR [b] db hub))
  have hK0 : KindAt T H2 (.ref xk) (canon fun x => ws.contains x) := kind_up hide_sub (hK [b] (db.up s1))
  intro x dx nx ndx nex
  refine made_book2 (T := T) (s := s0 bs ws) nx ndx nex hR0 hK0 fun H3 f ef s3 frf hBf => ⟨rfl, ?_⟩
  subst ef
  have s03 := s12.trans s3
  have ff : BookAt T (f.fp ++ [b]) H3 f (trail (s0 bs ws) []) [] [] := hBf [b] (db.up s12) (row_up (hide_up s2) (hR [b] db hub)) (hK [b] (db.up s1))
  have frf0 : ∀ a ∈ f.fp, H0 a = none := fun a h => s12.free (frf a h)
  have d3 : Dom (f.fp ++ [b]) H3 := fun a ha => (List.mem_append.mp ha).elim (ff.dom a) (db.up s03 a)
  have up3 := hide_new_up (M := [b]) s03 frf0
  -- its copy
  obtain ⟨dxf, obf⟩ := ff.ob
  refine ⟨_, rfl, f.p, dxf, _, rfl, obf, noCopied, ?_⟩
  have af : At T (f.fp ++ [b]) H3 f (s0 bs ws) [] 0 := At.of_end ff
  try unfold tCons tC tNil
  refine sp_copied (T := T) d3 af fun H4 k s4 frk hk => ?_
  have s04 := s03.trans s4
  have d4 : Dom (k.fp ++ (f.fp ++ [b])) H4 := fun a ha => (List.mem_append.mp ha).elim (hk.bk.dom a) (d3.up s4 a)
  have f4 := ff.new (F := k.fp) s4 frk
  have up4 := hide_new_up (M := f.fp ++ [b]) s4 frk
  -- its face
  refine ⟨_, rfl, ?_⟩
  try unfold tCons tC tNil
  refine sp_face (T := T) d4 hk (by decide) fun H5 p s5 np hp => ⟨by show 1 ≤ sizeLine; decide, fun pf npf => ?_⟩
  have s6 : Same H5 (upd H5 pf (.lst [.ref p])) := same_upd (Same.refl _) npf
  have h6 : upd H5 pf (.lst [.ref p]) pf = some (.lst [.ref p]) := upd_same
  have npf4 := s5.free npf
  generalize upd H5 pf (.lst [.ref p]) = H6 at s6 h6
  have s46 := s5.trans s6
  have s06 := s04.trans s46
  have s36 := s4.trans s46
  have up6 := hide_one (M := k.fp ++ (f.fp ++ [b])) s46 npf4
  have up06 : Same (hide [b] H0) (hide (pf :: (k.fp ++ (f.fp ++ [b]))) H6) := (up3.trans up4).trans up6
  have h0f : ∀ {a o}, H0 a = some o → a ∉ f.fp := fun e z => by rw [frf0 _ z] at e; cases e
  have h3k : ∀ {a o}, H3 a = some o → a ∉ k.fp := fun e z => by rw [frk _ z] at e; cases e
  have L0 : Lp T (pf :: (k.fp ++ (f.fp ++ [b]))) H3 H6 b c pb pw pe pf us bs ws ve es f k [.ref p] 0 := by
    refine ⟨frk, fun a o e => ⟨o, s36 _ _ e⟩, fun z => ?_, by simp, by simp, fun a h => by simp [h], .cons h6 (d4.up s46), ?_, f4.one s46 npf4, h6, ?_, dpAll_up up06 hve, dpAll_up up06 hub, hB.same s06, s06 _ _ hpb, s06 _ _ hpw, s06 _ _ hpe⟩
    · obtain ⟨o, e⟩ := hk.bk.dom pf z
      rw [npf4] at e
      cases e
    · exact hk.bk.one s46 npf4
    · rw [faces_snoc (i := 0) (Nat.zero_le _), List.take_zero, List.nil_append]
      exact .cons (dp_up (hide_one s6 npf) hp) .nil
  -- the edits done
  refine ⟨_, rfl, pe, rfl, ⟨_, SqL.of L0.hpe⟩, ?_⟩
  have hvl : ve.length = es.length := (dpAll_len hve).trans (List.length_map _)
  refine for_list (xs := ve) (fun i σ H' => (∃ y, σ = [some (.ref a), some (.ref b), x2, some (.ref pb), some (.ref pw), some (.ref pe), some (.ref f.p), some (.ref k.p), some (.ref pf), y, x10, x11]) ∧ ∃ M kk vf, kk.p = k.p ∧ Lp T M H3 H' b c pb pw pe pf us bs ws ve es f kk vf i) ⟨⟨_, rfl⟩, _, k, _, rfl, L0⟩ (fun i σ H' _ z => SqL.of z.2.choose_spec.choose_spec.choose_spec.2.hpe) (fun i v σ H' hx z => ?_) (fun σ H' z => ?_)
  · obtain ⟨⟨y, rfl⟩, M, kk, vf, ekp, L⟩ := z
    have hi : i < es.length := by rw [← hvl]; exact (List.getElem?_eq_some_iff.mp hx).1
    obtain ⟨v', e1', hv⟩ := dpAll_get L.dve (eds_get hi)
    rw [hx] at e1'
    cases e1'
    obtain ⟨dk, obk⟩ := L.bk.ob
    have lt : (es.take i).length = i := by rw [List.length_take]; omega
    have okS : okSt 900 (fin (s0 bs ws) (es.take i)) := okSt_mono (okJ os oe (by omega) i).1 (by decide)
    have B1 := L.bk
    rw [trail_last] at B1
    refine ⟨_, rfl, k.p, dk, _, rfl, by rw [← ekp]; exact obk, noDo, _, rfl, M, kk, _, fin (s0 bs ws) (es.take i), es.take i, [], v, es[i], by rw [← ekp]; rfl, L.dom, B1, .inl hv, oe _ (List.getElem_mem hi), okS, ?_, by omega, ?_⟩
    · rw [List.length_map, List.length_range]
      omega
    intro Ha lu nlu kp Ba
    rw [← trail_last, ← trail_snoc, ← take_snoc hi] at Ba
    have inM : ∀ a ∈ [kk.p, kk.ls, kk.le], a ∈ kk.fp := fun a h => by
      simp only [Bks.fp, List.mem_cons, List.not_mem_nil, or_false] at h ⊢
      rcases h with h | h | h
      · exact .inl h
      · exact .inr (.inl h)
      · exact .inr (.inr (.inl h))
    have upa : Same (hide M H') (hide (lu :: M) Ha) := hide_mono fun a o n e => ⟨fun z => by
      rcases List.mem_cons.mp z with z | z
      · rw [z, nlu] at e
        cases e
      · exact n z, kp.at (fun z => n (L.bk.mem _ (inM a z))) e⟩
    have h3out : ∀ {a o}, H3 a = some o → a ∉ [kk.p, kk.ls, kk.le] := fun e z => by
      rw [L.fr _ (inM _ z)] at e
      cases e
    have pfout : pf ∉ [kk.p, kk.ls, kk.le] := fun z => L.npf (inM _ z)
    have da : Dom (lu :: M) Ha := .cons Ba.un.choose_spec.1 (kp.dom L.dom)
    have fa : BookAt T (lu :: M) Ha f (trail (s0 bs ws) []) [] [] := L.ft.up (fun a ha o e => kp.at (h3out (ff.dom a ha).choose_spec) e) upa fun a ha => List.mem_cons_of_mem _ (L.fM a ha)
    have Aa : At T (lu :: M) Ha { kk with lu := lu } (s0 bs ws) (es.take (i + 1)) (es.take (i + 1)).length := At.of_end Ba
    have lpf := kp.at pfout L.hpf
    -- its face
    refine ⟨_, rfl, .inl ⟨rfl, _, SqL.of lpf⟩, _, rfl, ?_⟩
    try unfold tCons tC tNil
    rw [← ekp]
    refine sp_face (T := T) (b := { kk with lu := lu }) da Aa (by rw [List.length_take]; omega) fun Hb p' sb np' hp' => ?_
    have ef : faceJ (s0 bs ws) (es.take (i + 1)) (es.take (i + 1)).length = faceJ (s0 bs ws) es (i + 1) := by
      unfold faceJ
      rw [List.take_length]
    rw [ef] at hp'
    have vl : vf.length = i + 1 := by
      have := dpAll_len L.dvf
      rw [List.length_take, facesD_len] at this
      omega
    refine ⟨pf, vf, _, rfl, rfl, sb _ _ lpf, by rw [vl, PySem.sizeLine_eq]; omega, ⟨_, rfl⟩, lu :: M, { kk with lu := lu }, vf ++ [.ref p'], rfl, ?_⟩
    have pfM : ∀ a ∈ [pf], a ∈ lu :: M := fun a h => by rw [List.mem_singleton.mp h]; exact List.mem_cons_of_mem _ L.pfM
    have kc : Kp [pf] Hb (upd Hb pf (.lst (vf ++ [.ref p']))) := Kp.refl.upd (.inl (by simp))
    have kac : Kp [pf] Ha (upd Hb pf (.lst (vf ++ [.ref p']))) := (Kp.of sb).trans kc
    have upc := upa.trans (kac.hide pfM)
    have frk' : ∀ a ∈ ({ kk with lu := lu } : Bks).fp, H3 a = none := fun a ha => by
      have ha' : a = kk.p ∨ a = kk.ls ∨ a = kk.le ∨ a = lu := by simpa [Bks.fp] using ha
      rcases ha' with rfl | rfl | rfl | rfl
      · exact L.fr _ (by simp [Bks.fp])
      · exact L.fr _ (by simp [Bks.fp])
      · exact L.fr _ (by simp [Bks.fp])
      · cases e : H3 a with
        | none => rfl
        | some o =>
          obtain ⟨u, e'⟩ := L.lv _ _ e
          rw [nlu] at e'
          cases e'
    have npk' : pf ∉ ({ kk with lu := lu } : Bks).fp := fun ha => by
      have ha' : pf = kk.p ∨ pf = kk.ls ∨ pf = kk.le ∨ pf = lu := by simpa [Bks.fp] using ha
      rcases ha' with z | z | z | z
      · exact L.npf (by simp [Bks.fp, z])
      · exact L.npf (by simp [Bks.fp, z])
      · exact L.npf (by simp [Bks.fp, z])
      · rw [← z, L.hpf] at nlu
        cases nlu
    have b3 := hB.same s03
    have outpf : ∀ {a : Addr} {o : HO}, H3 a = some o → a ≠ pf := fun e z => by
      have := s4.free npf4
      rw [z, this] at e
      cases e
    have at' : ∀ {a : Addr} {o : HO}, H3 a = some o → ∀ {u : HO}, H' a = some u → upd Hb pf (.lst (vf ++ [.ref p'])) a = some u := fun e3 u e => by
      rw [upd_ne (outpf e3)]
      exact sb _ _ (kp.at (h3out e3) e)
    have bag' : BagAt (upd Hb pf (.lst (vf ++ [.ref p']))) b c := L.bag.up (fun _ e => at' b3.live.1.choose_spec e) (fun _ e => at' b3.live.2.choose_spec e)
    refine ⟨frk', fun a o e => let ⟨u, e'⟩ := L.lv a o e; let ⟨u', e2⟩ := kp.live a u e'; kac.live a u' e2, npk', List.mem_cons_of_mem _ L.pfM, List.mem_cons_of_mem _ L.bM, fun a h => List.mem_cons_of_mem _ (L.fM a h), kac.dom da, Ba.kp kac pfM (fun a h => by rw [List.mem_singleton.mp h]; exact npk'), fa.kp kac pfM (fun a h z => ?_), upd_same, ?_, dpAll_up upc L.dve, dpAll_up upc L.dus, bag', at' (s03 _ _ hpb) L.hpb, at' (s03 _ _ hpw) L.hpw, at' (s03 _ _ hpe) L.hpe⟩
    · rw [List.mem_singleton.mp h] at z
      obtain ⟨o, e⟩ := ff.dom pf z
      exact outpf e rfl
    · rw [faces_snoc (i := i + 1) hi]
      exact dpAll_app (dpAll_up upc L.dvf) (.cons (dp_up (kc.hide pfM) hp') .nil)
  · obtain ⟨⟨y, rfl⟩, M, kk, vf, ekp, L⟩ := z
    rw [← ekp]
    have L := L
    have b3 := hB.same s03
    have out3 : ∀ {a : Addr} {o : HO}, H3 a = some o → a ∉ kk.fp := fun e z => by
      rw [L.fr _ z] at e
      cases e
    have outpf : ∀ {a : Addr} {o : HO}, H3 a = some o → a ≠ pf := fun e z => by
      have := s4.free npf4
      rw [z, this] at e
      cases e
    have hb3 := b3.live.1.choose_spec
    have hc3 := b3.live.2.choose_spec
    have hbk := L.bk
    rw [hvl, List.take_length] at hbk
    have hvf := L.dvf
    rw [hvl, List.take_of_length_le (by rw [facesD_len]; exact Nat.le_refl _)] at hvf
    have fbn : b ∉ f.fp := h0f hB.live.1.choose_spec
    have R : Rdy T M H' b c pe pf (s0 bs ws) ve es f kk vf :=
      ⟨⟨L.dom, L.hpe, L.dve, L.hpf, hvf, oe, e1, by omega, os⟩, L.ft, L.bag, L.bM, hbk.mem, out3 hb3, out3 hc3, (fun a h z => out3 (ff.dom a z).choose_spec h), out3 (s03 _ _ hpe), L.npf, fbn, nb.2.2, fun z => outpf hb3 z.symm⟩
    have E0' : Eq0 T M H' b c pb pw pe us bs ws ve es kk := ⟨L.dom, L.bM, L.bag, out3 hb3, L.hpb, L.dus, L.hpw, L.hpe, L.dve, nb, hbk, ob, lb, ow, lw, od, e1, e2⟩
    have A0 : At T M H' kk (s0 bs ws) es es.length := At.of_end hbk
    clear L hbk hvf
    -- compared
    refine ⟨_, rfl, _, rfl, _, rfl, _, rfl, _, rfl, ?_⟩
    refine ⟨M, b, c, pb, pw, pe, us, bs, ws, ve, es, kk, rfl, E0', fun H7 k7 B7 => ⟨true, rfl, iteF ?_⟩⟩
    have R7 := R.kb1 k7 B7
    have mB : ∀ a ∈ [b], a ∈ M := fun a h => by rw [List.mem_singleton.mp h]; exact R.bM
    have nB : ∀ a ∈ [b], a ∉ kk.fp := fun a h => by rw [List.mem_singleton.mp h]; exact R.kb
    have A7 := A0.kp k7 mB nB
    -- through
    refine ⟨_, rfl, _, rfl, _, rfl, _, rfl, ?_⟩
    refine ⟨M, s0 bs ws, es, f, kk, pe, pf, ve, vf, rfl, R7.g, R7.ft, A7, (fun a h => R.kf a (ops_fp a h)), (fun h => R.kpe (ops_fp _ h)), (fun h => R.kpf (ops_fp _ h)), fun H8 k8 A8 => ⟨true, rfl, iteF ?_⟩⟩
    have R8 := R7.kp k8
    -- a spot
    refine ⟨_, rfl, _, rfl, pe, ve, rfl, .inl (SqL.of R8.g.pe), b, c, _, rfl, R8.bag, by omega, by omega, fun H9 d k9 B9 d0 d1 => ?_⟩
    obtain ⟨j, rfl⟩ := Int.eq_ofNat_of_zero_le d0
    have hj : j < es.length := by omega
    have R9 := R8.kb1 k9 B9
    have A9 := A8.kp k9 mB nB
    refine ⟨_, rfl, _, rfl, by omega, by omega, ?_⟩
    refine for_range (lo := 0) (n := (Int.toNat (j : Int))) (fun i σ H' => (∃ y z, σ = [some (.ref a), some (.ref b), x2, some (.ref pb), some (.ref pw), some (.ref pe), some (.ref f.p), some (.ref kk.p), some (.ref pf), y, some (.int j), z]) ∧ Kp kk.ops H9 H' ∧ At T M H' kk (s0 bs ws) es i) ⟨⟨_, _, rfl⟩, Kp.refl, A9⟩ (fun i σ H' hi z => ?_) (fun σ H' z => ?_)
    · obtain ⟨⟨y, y', rfl⟩, kp, hA⟩ := z
      have hi : i < j := by simpa using hi
      have Ri := R9.kp kp
      refine ⟨_, rfl, ?_⟩
      try unfold tCons tC tNil
      refine sp_again (T := T) Ri.g.dom hA (by omega) (by omega) fun H10 v k10 hv hA10 => ?_
      exact ⟨⟨_, _, rfl⟩, kp.trans k10, hA10⟩
    · obtain ⟨⟨y, y', rfl⟩, kp, hA⟩ := z
      have hA : At T M H' kk (s0 bs ws) es j := by
        have e : (Int.toNat (j : Int)) = j := by simp
        rw [e] at hA
        exact hA
      have R10 := R9.kp kp
      refine ⟨_, rfl, _, rfl, _, rfl, _, rfl, _, rfl, ?_⟩
      refine ⟨M, s0 bs ws, es, f, kk, pe, pf, ve, vf, j, rfl, R10.g, R10.ft, hA, hj, fun H11 s11 => ⟨true, rfl, iteF ?_⟩⟩
      have R11 := R10.same s11
      refine ⟨_, rfl, _, rfl, _, rfl, _, rfl, ?_⟩
      refine ⟨M, s0 bs ws, es, kk, pe, pf, ve, vf, j, rfl, R11.g, hA.same s11, hj, (fun h => R.kpe (ops_fp _ h)), (fun h => R.kpf (ops_fp _ h)), fun H12 k12 => ⟨true, rfl, iteF ?_⟩⟩
      exact hD _ _ ⟨_, _, _, _, _, _, _, _, _, _, rfl⟩ (R11.kp k12).bag
end
end Bk

/-! The walk: the law, whole. -/
namespace Bk
open PySem L2 L2.BK

section
variable {P : Program} {w : World} {K : PySem.W.Frag} {mg : Str → Option Value} {base : Heap} (T : Txt P w K mg)
theorem mem_rep {α : Type} {n : Nat} {xs : List α} {x : α} (h : x ∈ (List.replicate n xs).flatten) : x ∈ xs := by
  obtain ⟨l, hl, hx⟩ := List.mem_flatten.mp h
  rw [List.eq_of_mem_replicate hl] at hx
  exact hx
theorem ok_law (T : Txt P w K mg) {f : Addr} {fd : FuncData} (F : Fun K "law" "law" s_law f fd) : FnG P w K mg base CX0 13 f fd ["_law_script"] (spLaw K) := by
  refine fun_okG F sc_law (fun vs H Q E h => ?_) (fun cdv A outer sh H vs Q E hg hr h => ?_)
  · obtain ⟨a, ns, rfl, _⟩ := h
    rfl
  · obtain ⟨a, ns, rfl, hs, hl, q⟩ := h
    have gB : FnOk P w K mg base CX0 1 T.bag.f T.bag.fd ["_law_script"] (spBag K) := ok_bag T
    have gT : FnOk P w K mg base CX0 1 T.take.f T.take.fd ["_law_bag_here", "_law_many"] spTake := ok_take T
    have gD : FnOk P w K mg base CX0 4 T.drawnBows.f T.drawnBows.fd ["_law_bag_here", "_law_most"] (spDrawnBows K) := ok_drawnBows T
    have gW : FnOk P w K mg base CX0 2 T.waysDrawn.f T.waysDrawn.fd ["_law_bag_here"] spWaysDrawn := ok_waysDrawn T
    have gE : FnOk P w K mg base CX0 4 T.edits.f T.edits.fd ["_law_bag_here"] (spEdits K) := ok_edits T
    have hr1 : Room 1 _ := hr.mono (by decide)
    have hr2 : Room 2 _ := hr.mono (by decide)
    have hr4 : Room 4 _ := hr.mono (by decide)
    obtain ⟨tl, hT, hGo⟩ := law_tail (base := base) T (f0 := f) (H := H) (E := E) (outer := outer) hg hr
    refine ⟨_, pss_cons (ps_set (i := 1) sc_law.nd rfl (Or.inl rfl) (pe_call gB hr1 (by rfl) T.bag.mg T.bag.F.kp T.bag.b .nil pass0 (pa_cons (pv 0) pa_nil)))
      (pss_cons (ps_for (passes_of rfl) rfl (pi_range1 (by rfl) T.n_range (pa_cons pe_int pa_nil)) (pg_name (i := 2) sc_law.nd rfl (Or.inl rfl))
          (pss_cons (ps_par3 (i := 3) (j := 4) (l := 5) rfl sc_law.nd rfl rfl rfl (by decide) (by decide) (by decide) rfl rfl rfl
              (pa_cons (pe_call gD hr4 (by rfl) T.drawnBows.mg T.drawnBows.F.kp T.drawnBows.b .nil pass0 (pa_cons (pv 1) (pa_cons pe_int pa_nil)))
                (pa_cons (pe_call gW hr2 (by rfl) T.waysDrawn.mg T.waysDrawn.F.kp T.waysDrawn.b .nil pass0 (pa_cons (pv 1) pa_nil))
                (pa_cons (pe_call gE hr4 (by rfl) T.edits.mg T.edits.F.kp T.edits.b .nil pass0 (pa_cons (pv 1) pa_nil)) pa_nil))) (by rfl))
          (pss_cons (ps_if (pt_cmpR op_eq (pe_call gT hr1 (by rfl) T.take.mg T.take.F.kp T.take.b .nil pass0 (pa_cons (pv 1) (pa_cons pe_int pa_nil))) pe_int (nomark _))
              (pss_one (ps_set (i := 5) sc_law.nd rfl (Or.inl rfl) (pe_slice sl_list (pe_op op_rep (pv 5) pe_int) po_none (po_some (pe_op op_add pe_int (pe_call gT hr1 (by rfl) T.take.mg T.take.F.kp T.take.b .nil pass0 (pa_cons (pv 1) (pa_cons pe_int pa_nil))))))))
              pss_nil) hT)))
      (pss_one (ps_ret pe_bl))), ?_⟩
    refine ⟨_, rfl, a, ns, rfl, hs, by omega, fun H1 b c s1 nb1 nc1 hB1 => ?_⟩
    refine ⟨2, rfl, by decide, by decide, ?_⟩
    refine for_range (lo := 0) (n := 2) (fun i σ H' => (∃ y2 y3 y4 y5 y6 y7 y8 y9 y10 y11, σ = [some (.ref a), some (.ref b), y2, y3, y4, y5, y6, y7, y8, y9, y10, y11]) ∧ BagAt H' b c) ⟨⟨_, _, _, _, _, _, _, _, _, _, rfl⟩, hB1⟩ (fun i σ H' hi z => ?_) (fun σ H' z => ?_)
    · obtain ⟨⟨y2, y3, y4, y5, y6, y7, y8, y9, y10, y11, rfl⟩, hB⟩ := z
      refine ⟨_, rfl, b, c, 6, rfl, hB, by decide, by decide, fun H2 pb us bs dB ob lb => ?_⟩
      obtain ⟨k2, hB2, npb, hpb, dus⟩ := dB
      have pbn := hB.ne npb
      refine ⟨_, rfl, b, c, rfl, hB2, fun H3 pw ws k3 hB3 npw hpw ow lw => ?_⟩
      have pwn := hB2.ne npw
      refine ⟨_, rfl, b, c, rfl, hB3, fun H4 pe ve es dE od e1 e8 => ?_⟩
      obtain ⟨k4, hB4, npe, hpe, dve⟩ := dE
      have pen := hB3.ne npe
      refine ⟨_, _, _, rfl, ?_⟩
      have hb1 : ∀ x ∈ [b], x ∈ [b] := fun x h => h
      have dus2 : DpAll K (hide [b] H2) us (bowsD bs) := dpAll_up (hide_more (by simp)) (dus [b] (.cons hB.live.1.choose_spec .nil) (by simp))
      have dus4 : DpAll K (hide [b] H4) us (bowsD bs) := dpAll_up ((k3.trans k4).hide hb1) dus2
      have dve4 : DpAll K (hide [b] H4) ve (es.map edD) := dpAll_up (hide_more (by simp)) (dve [b] (.cons hB3.live.1.choose_spec .nil) (by simp))
      have hpb4 := (k3.trans k4).at (by simpa using pbn.1) hpb
      have hpw4 := k4.at (by simpa using pwn.1) hpw
      -- many of them, maybe
      refine ⟨_, rfl, b, c, 4, rfl, hB4, by decide, by decide, fun H5 d k5 hB5 d0 d1 => ⟨rfl, _, rfl, ?_⟩⟩
      have dus5 := dpAll_up (k5.hide hb1) dus4
      have dve5 := dpAll_up (k5.hide hb1) dve4
      have hpb5 := k5.at (by simpa using pbn.1) hpb4
      have hpw5 := k5.at (by simpa using pwn.1) hpw4
      have hpe5 := k5.at (by simpa using pen.1) hpe
      have hvl : ve.length = es.length := (dpAll_len dve5).trans (List.length_map _)
      refine ite2 (fun _ => ?_) (fun _ => ?_)
      · refine ⟨_, rfl, pe, 90, ve, rfl, rfl, hpe5, by decide, by decide, by rw [hvl, PySem.sizeLine_eq]; show es.length * 90 ≤ _; omega, fun p np => ?_⟩
        have s6 : Same H5 (upd H5 p (.lst (List.replicate (Int.toNat 90) ve).flatten)) := same_upd (Same.refl _) np
        have h6 : upd H5 p (.lst (List.replicate (Int.toNat 90) ve).flatten) p = some (.lst (List.replicate 90 ve).flatten) := upd_same
        have npb5 := (hB5.ne np).1
        generalize upd H5 p (.lst (List.replicate (Int.toNat 90) ve).flatten) = H6 at s6 h6
        refine ⟨_, rfl, b, c, 71, rfl, hB5.same s6, by decide, by decide, fun H7 d7 k7 hB7 d0' d1' => ⟨_, _, rfl, rfl, _, rfl, ?_⟩⟩
        obtain ⟨m, rfl⟩ := Int.eq_ofNat_of_zero_le d0'
        have h7 := k7.at (by simpa using npb5) h6
        refine ⟨p, _, rfl, SqL.of h7, fun p8 np8 => ?_⟩
        have rl : ((List.replicate 90 ve).flatten).length = 90 * ve.length := rep_len _ _
        have ec : ∀ (i : Int), i = ((20 + m : Nat) : Int) → cutV (List.replicate 90 ve).flatten none (some i) = (List.replicate 90 ve).flatten.take (20 + m) := fun i hi => by rw [hi]; exact cut_take (by omega)
        rw [ec (20 + (m : Int)) (by omega)]
        have s8 : Same H7 (upd H7 p8 (.lst ((List.replicate 90 ve).flatten.take (20 + m)))) := same_upd (Same.refl _) np8
        have h8 : upd H7 p8 (.lst ((List.replicate 90 ve).flatten.take (20 + m))) p8 = some (.lst ((List.replicate 90 ve).flatten.take (20 + m))) := upd_same
        have p8n := (hB7.ne np8).1
        generalize upd H7 p8 (.lst ((List.replicate 90 ve).flatten.take (20 + m))) = H8 at s8 h8
        have k58 : Kp [b] H5 H8 := ((Kp.of s6).trans k7).snd s8
        have up := k58.hide hb1
        have rl2 : ((List.replicate 90 es).flatten).length = 90 * es.length := rep_len _ _
        have e9 : (((List.replicate 90 es).flatten.take (20 + m)).map edD) = ((List.replicate 90 (es.map edD)).flatten).take (20 + m) := by
          rw [List.map_take, List.map_flatten, List.map_replicate]
        refine hGo _ H8 a b c pb pw p8 us bs ws _ ((List.replicate 90 es).flatten.take (20 + m)) _ _ _ _ _ _ _ (fun σ H' h1 h2 => ⟨h1, h2⟩) (hB7.same s8) (k58.at (by simpa using pbn.1) hpb5) (dpAll_up up dus5) (k58.at (by simpa using pwn.1) hpw5) h8 ?_ ⟨pbn.1, pwn.1, p8n⟩ ob lb ow lw (fun e he => od e (mem_rep (List.mem_of_mem_take he))) ?_ ?_
        · rw [e9]
          exact dpAll_take _ (dpAll_rep (dpAll_up up dve5) 90)
        · rw [List.length_take]
          omega
        · rw [List.length_take]
          omega
      · exact hGo _ H5 a b c pb pw pe us bs ws ve es _ _ _ _ _ _ _ (fun σ H' h1 h2 => ⟨h1, h2⟩) hB5 hpb5 dus5 hpw5 hpe5 dve5 ⟨pbn.1, pwn.1, pen.1⟩ ob lb ow lw od e1 (by omega)
    · exact q H'
end
end Bk

/-! The law, to its end. -/
namespace Bk
open PySem L2 L2.BK
theorem law_end {P : Program} {w : World} {K : PySem.W.Frag} {mg : Str → Option Value} {h : Heap} {fa f : Addr} {oc : Value} {od an : Option Addr} {osl : Array (Option Value)} {kV doc pm cdv ct : Value}
    (T : Nonempty (Txt P w K mg)) (X : K.In h) (G : h.Ns mainGlobals mg) (hmg : mg "law" = some (.ref fa)) (a : PySem.W.nsIn K mainGlobals "law" = some (some (.ref f)))
    (l : K.lookup f = some ⟨oc, od, .func (PySem.W.fnOf "law" "law" (defArgs s_law) (defBody s_law) (defScope s_law) .none kV doc pm an cdv ct), osl⟩)
    (c : PySem.W.codeIn K cdv "law" = true) (k : PySem.W.keepIn K (.ref f) = true) :
    ∃ fd : FuncData, (∀ (s : Shared) (u : Value), BindsTo s fd ⟨[u], []⟩ [(("_law_script" : Str), u)]) ∧ ∀ base : Heap, K.In base → base.Ns mainGlobals mg → FnG P w K mg base L2.CX0 30 fa fd ["_law_script"] (spLaw K) := by
  obtain ⟨T⟩ := T
  have e := PySem.W.mg_of X G a
  rw [hmg] at e
  cases e
  exact ⟨PySem.W.fnOf "law" "law" (defArgs s_law) (defBody s_law) (defScope s_law) .none kV doc pm an cdv ct, fun s u => .of_eq rfl, fun base _ _ => (ok_law (base := base) T (fun_mk l c k)).mono (by decide)⟩
end Bk
open PySem PySem.W PyProof.Rows
set_option maxHeartbeats 0 in
theorem PySem.Challenge.cw_bowkinds_k94_whole_books_back_and_again_holds : PySem.Challenge.rw_bowkinds_k94_whole_books_back_and_again.Holds := by
  w_on; o_law; k_head; (case hw => w_witness2)
  k_fill
  refine L2.BK.walk_ofG (l := PySem.Challenge.rw_bowkinds_k94_whole_books_back_and_again) (n := 63) (k := 30) (x := "_law_script") (CX := fun _ => L2.CX0) (sp := fun w => Bk.spLaw _) rfl (by decide) rfl ⟨rfl, by decide, by decide⟩ (fun w h Y => PySem.W.kIn_of Y) ?F (fun _ _ a ns hl _ hS => ⟨a, ns, rfl, hS, hl, fun _ => rfl⟩) (fun _ _ _ _ _ h => h)
  case F =>
    intro w mg fa h KX G hmg
    refine' Bk.law_end (h := h) ?T KX G hmg ?a_law ?l_law ?c_law ?k_law
    (case a_law => k_is)
    (case l_law => k_is)
    (case c_law => k_is)
    (case k_law => k_is)
    refine' Bk.all_mk KX G ?z_bool ?z_int ?z_isinstance ?z_list ?z_tuple ?z_all ?z_str ?z_sorted ?z_set ?z_len ?z_range ?z_abs ?z_repr ?aKind ?pgKind ?hdKind ?poKind ?saKind ?mkKind ?kcKind ?c1Kind ?obKind ?n_its_ways ?aRow ?pgRow ?hdRow ?poRow ?saRow ?mkRow ?kcRow ?c1Row ?obRow ?n_its_bows ?aBook ?pgBook ?hdBook ?poBook ?saBook ?mkBook ?kcBook ?c1Book ?obBook ?n_its_states ?n_its_edits ?n_its_undone ?oc2 ?oc3 ?first ?ne1 ?nf1 ?nf2 ?nf3 ?nf4 ?nf5 ?tyB ?sl ?sn ?most ?mWays ?lWays ?vWays ?sWays ?mLens ?vLens ?len1 ?len2 ?len3 ?len4 ?len5 ?mErr ?mNot ?xNot ?kNot ?bNot ?tNot ?b1 ?b2 ?b3 ?b4 ?e1 ?e2 ?e4 ?e5 ?e8 ?a_turnedBow ?l_turnedBow ?c_turnedBow ?k_turnedBow ?a_isInteger ?l_isInteger ?c_isInteger ?k_isInteger ?a_isPlace ?l_isPlace ?c_isPlace ?k_isPlace ?a_isBow ?l_isBow ?c_isBow ?k_isBow ?a_areBows ?l_areBows ?c_areBows ?k_areBows ?a_isWay ?l_isWay ?c_isWay ?k_isWay ?a_areWays ?l_areWays ?c_areWays ?k_areWays ?a_isEdit ?l_isEdit ?c_isEdit ?k_isEdit ?a_edRow ?l_edRow ?c_edRow ?k_edRow ?a_edKind ?l_edKind ?c_edKind ?k_edKind ?a_bag ?l_bag ?c_bag ?k_bag ?a_take ?l_take ?c_take ?k_take ?a_alike ?l_alike ?c_alike ?k_alike ?a_mixed ?l_mixed ?c_mixed ?k_mixed ?a_one ?l_one ?c_one ?k_one ?a_allWays ?l_allWays ?c_allWays ?k_allWays ?a_bow ?l_bow ?c_bow ?k_bow ?a_bows ?l_bows ?c_bows ?k_bows ?a_spread ?l_spread ?c_spread ?k_spread ?a_waysDrawn ?l_waysDrawn ?c_waysDrawn ?k_waysDrawn ?a_other ?l_other ?c_other ?k_other ?a_drawnBows ?l_drawnBows ?c_drawnBows ?k_drawnBows ?a_edits ?l_edits ?c_edits ?k_edits ?a_face ?l_face ?c_face ?k_face ?a_turned ?l_turned ?c_turned ?k_turned ?a_done ?l_done ?c_done ?k_done ?a_equals ?l_equals ?c_equals ?k_equals ?a_through ?l_through ?c_through ?k_through ?a_copyR ?l_copyR ?c_copyR ?k_copyR ?a_lastR ?l_lastR ?c_lastR ?k_lastR ?a_kInit ?i_kInit ?l_kInit ?c_kInit ?k_kInit ?a_kWays ?i_kWays ?l_kWays ?c_kWays ?k_kWays ?a_kTurned ?i_kTurned ?l_kTurned ?c_kTurned ?k_kTurned ?a_kHas ?i_kHas ?l_kHas ?c_kHas ?k_kHas ?a_kOr ?i_kOr ?l_kOr ?c_kOr ?k_kOr ?a_kSub ?i_kSub ?l_kSub ?c_kSub ?k_kSub ?a_kEq ?i_kEq ?l_kEq ?c_kEq ?k_kEq ?a_rInit ?i_rInit ?l_rInit ?c_rInit ?k_rInit ?a_rBows ?i_rBows ?l_rBows ?c_rBows ?k_rBows ?a_rPut ?i_rPut ?l_rPut ?c_rPut ?k_rPut ?a_rTurned ?i_rTurned ?l_rTurned ?c_rTurned ?k_rTurned ?a_rEq ?i_rEq ?l_rEq ?c_rEq ?k_rEq ?a_bInit ?i_bInit ?l_bInit ?c_bInit ?k_bInit ?a_bRow ?g_bRow ?t_bRow ?r_bRow ?l_bRow ?c_bRow ?k_bRow ?a_bKind ?g_bKind ?t_bKind ?r_bKind ?l_bKind ?c_bKind ?k_bKind ?a_bDo ?i_bDo ?l_bDo ?c_bDo ?k_bDo ?a_bBack ?i_bBack ?l_bBack ?c_bBack ?k_bBack ?a_bAgain ?i_bAgain ?l_bAgain ?c_bAgain ?k_bAgain ?a_bLog ?i_bLog ?l_bLog ?c_bLog ?k_bLog ?a_bCopied ?i_bCopied ?l_bCopied ?c_bCopied ?k_bCopied ?a_bLen ?i_bLen ?l_bLen ?c_bLen ?k_bLen ?a_bEq ?i_bEq ?l_bEq ?c_bEq ?k_bEq
    (case z_bool => k_is)
    (case z_int => k_is)
    (case z_isinstance => k_is)
    (case z_list => k_is)
    (case z_tuple => k_is)
    (case z_all => k_is)
    (case z_str => k_is)
    (case z_sorted => k_is)
    (case z_set => k_is)
    (case z_len => k_is)
    (case z_range => k_is)
    (case z_abs => k_is)
    (case z_repr => k_is)
    (case aKind => k_is)
    (case pgKind => k_is)
    (case hdKind => k_is)
    (case poKind => k_is)
    (case saKind => k_is)
    (case mkKind => k_is)
    (case kcKind => k_is)
    (case c1Kind => k_is)
    (case obKind => k_is)
    (case n_its_ways => k_is)
    (case aRow => k_is)
    (case pgRow => k_is)
    (case hdRow => k_is)
    (case poRow => k_is)
    (case saRow => k_is)
    (case mkRow => k_is)
    (case kcRow => k_is)
    (case c1Row => k_is)
    (case obRow => k_is)
    (case n_its_bows => k_is)
    (case aBook => k_is)
    (case pgBook => k_is)
    (case hdBook => k_is)
    (case poBook => k_is)
    (case saBook => k_is)
    (case mkBook => k_is)
    (case kcBook => k_is)
    (case c1Book => k_is)
    (case obBook => k_is)
    (case n_its_states => k_is)
    (case n_its_edits => k_is)
    (case n_its_undone => k_is)
    (case oc2 => k_is)
    (case oc3 => k_is)
    (case first => k_is)
    (case ne1 => k_is)
    (case nf1 => k_is)
    (case nf2 => k_is)
    (case nf3 => k_is)
    (case nf4 => k_is)
    (case nf5 => k_is)
    (case tyB => k_is)
    (case sl => k_is)
    (case sn => k_is)
    (case most => k_is)
    (case mWays => k_is)
    (case lWays => k_is)
    (case vWays => exact .cons ⟨_, rfl⟩ (.cons ⟨_, rfl⟩ (.cons ⟨_, rfl⟩ (.cons ⟨_, rfl⟩ (.cons ⟨_, rfl⟩ (.cons ⟨_, rfl⟩ (.cons ⟨_, rfl⟩ .nil)))))))
    (case sWays => decide)
    (case mLens => k_is)
    (case vLens => first | k_is | rfl)
    (case len1 => k_is)
    (case len2 => k_is)
    (case len3 => k_is)
    (case len4 => k_is)
    (case len5 => k_is)
    (case mErr => k_is)
    (case mNot => k_is)
    (case xNot => k_exc)
    (case kNot => k_is)
    (case bNot => k_is)
    (case tNot => k_is)
    (case b1 => k_is)
    (case b2 => k_is)
    (case b3 => k_is)
    (case b4 => k_is)
    (case e1 => k_is)
    (case e2 => k_is)
    (case e4 => k_is)
    (case e5 => k_is)
    (case e8 => k_is)
    (case a_turnedBow => k_is)
    (case l_turnedBow => k_is)
    (case c_turnedBow => k_is)
    (case k_turnedBow => k_is)
    (case a_isInteger => k_is)
    (case l_isInteger => k_is)
    (case c_isInteger => k_is)
    (case k_isInteger => k_is)
    (case a_isPlace => k_is)
    (case l_isPlace => k_is)
    (case c_isPlace => k_is)
    (case k_isPlace => k_is)
    (case a_isBow => k_is)
    (case l_isBow => k_is)
    (case c_isBow => k_is)
    (case k_isBow => k_is)
    (case a_areBows => k_is)
    (case l_areBows => k_is)
    (case c_areBows => k_is)
    (case k_areBows => k_is)
    (case a_isWay => k_is)
    (case l_isWay => k_is)
    (case c_isWay => k_is)
    (case k_isWay => k_is)
    (case a_areWays => k_is)
    (case l_areWays => k_is)
    (case c_areWays => k_is)
    (case k_areWays => k_is)
    (case a_isEdit => k_is)
    (case l_isEdit => k_is)
    (case c_isEdit => k_is)
    (case k_isEdit => k_is)
    (case a_edRow => k_is)
    (case l_edRow => k_is)
    (case c_edRow => k_is)
    (case k_edRow => k_is)
    (case a_edKind => k_is)
    (case l_edKind => k_is)
    (case c_edKind => k_is)
    (case k_edKind => k_is)
    (case a_bag => k_is)
    (case l_bag => k_is)
    (case c_bag => k_is)
    (case k_bag => k_is)
    (case a_take => k_is)
    (case l_take => k_is)
    (case c_take => k_is)
    (case k_take => k_is)
    (case a_alike => k_is)
    (case l_alike => k_is)
    (case c_alike => k_is)
    (case k_alike => k_is)
    (case a_mixed => k_is)
    (case l_mixed => k_is)
    (case c_mixed => k_is)
    (case k_mixed => k_is)
    (case a_one => k_is)
    (case l_one => k_is)
    (case c_one => k_is)
    (case k_one => k_is)
    (case a_allWays => k_is)
    (case l_allWays => k_is)
    (case c_allWays => k_is)
    (case k_allWays => k_is)
    (case a_bow => k_is)
    (case l_bow => k_is)
    (case c_bow => k_is)
    (case k_bow => k_is)
    (case a_bows => k_is)
    (case l_bows => k_is)
    (case c_bows => k_is)
    (case k_bows => k_is)
    (case a_spread => k_is)
    (case l_spread => k_is)
    (case c_spread => k_is)
    (case k_spread => k_is)
    (case a_waysDrawn => k_is)
    (case l_waysDrawn => k_is)
    (case c_waysDrawn => k_is)
    (case k_waysDrawn => k_is)
    (case a_other => k_is)
    (case l_other => k_is)
    (case c_other => k_is)
    (case k_other => k_is)
    (case a_drawnBows => k_is)
    (case l_drawnBows => k_is)
    (case c_drawnBows => k_is)
    (case k_drawnBows => k_is)
    (case a_edits => k_is)
    (case l_edits => k_is)
    (case c_edits => k_is)
    (case k_edits => k_is)
    (case a_face => k_is)
    (case l_face => k_is)
    (case c_face => k_is)
    (case k_face => k_is)
    (case a_turned => k_is)
    (case l_turned => k_is)
    (case c_turned => k_is)
    (case k_turned => k_is)
    (case a_done => k_is)
    (case l_done => k_is)
    (case c_done => k_is)
    (case k_done => k_is)
    (case a_equals => k_is)
    (case l_equals => k_is)
    (case c_equals => k_is)
    (case k_equals => k_is)
    (case a_through => k_is)
    (case l_through => k_is)
    (case c_through => k_is)
    (case k_through => k_is)
    (case a_copyR => k_is)
    (case l_copyR => k_is)
    (case c_copyR => k_is)
    (case k_copyR => k_is)
    (case a_lastR => k_is)
    (case l_lastR => k_is)
    (case c_lastR => k_is)
    (case k_lastR => k_is)
    (case a_kInit => k_is)
    (case i_kInit => k_is)
    (case l_kInit => k_is)
    (case c_kInit => k_is)
    (case k_kInit => k_is)
    (case a_kWays => k_is)
    (case i_kWays => k_is)
    (case l_kWays => k_is)
    (case c_kWays => k_is)
    (case k_kWays => k_is)
    (case a_kTurned => k_is)
    (case i_kTurned => k_is)
    (case l_kTurned => k_is)
    (case c_kTurned => k_is)
    (case k_kTurned => k_is)
    (case a_kHas => k_is)
    (case i_kHas => k_is)
    (case l_kHas => k_is)
    (case c_kHas => k_is)
    (case k_kHas => k_is)
    (case a_kOr => k_is)
    (case i_kOr => k_is)
    (case l_kOr => k_is)
    (case c_kOr => k_is)
    (case k_kOr => k_is)
    (case a_kSub => k_is)
    (case i_kSub => k_is)
    (case l_kSub => k_is)
    (case c_kSub => k_is)
    (case k_kSub => k_is)
    (case a_kEq => k_is)
    (case i_kEq => k_is)
    (case l_kEq => k_is)
    (case c_kEq => k_is)
    (case k_kEq => k_is)
    (case a_rInit => k_is)
    (case i_rInit => k_is)
    (case l_rInit => k_is)
    (case c_rInit => k_is)
    (case k_rInit => k_is)
    (case a_rBows => k_is)
    (case i_rBows => k_is)
    (case l_rBows => k_is)
    (case c_rBows => k_is)
    (case k_rBows => k_is)
    (case a_rPut => k_is)
    (case i_rPut => k_is)
    (case l_rPut => k_is)
    (case c_rPut => k_is)
    (case k_rPut => k_is)
    (case a_rTurned => k_is)
    (case i_rTurned => k_is)
    (case l_rTurned => k_is)
    (case c_rTurned => k_is)
    (case k_rTurned => k_is)
    (case a_rEq => k_is)
    (case i_rEq => k_is)
    (case l_rEq => k_is)
    (case c_rEq => k_is)
    (case k_rEq => k_is)
    (case a_bInit => k_is)
    (case i_bInit => k_is)
    (case l_bInit => k_is)
    (case c_bInit => k_is)
    (case k_bInit => k_is)
    (case a_bRow => k_is)
    (case g_bRow => k_is)
    (case t_bRow => k_is)
    (case r_bRow => k_is)
    (case l_bRow => k_is)
    (case c_bRow => k_is)
    (case k_bRow => k_is)
    (case a_bKind => k_is)
    (case g_bKind => k_is)
    (case t_bKind => k_is)
    (case r_bKind => k_is)
    (case l_bKind => k_is)
    (case c_bKind => k_is)
    (case k_bKind => k_is)
    (case a_bDo => k_is)
    (case i_bDo => k_is)
    (case l_bDo => k_is)
    (case c_bDo => k_is)
    (case k_bDo => k_is)
    (case a_bBack => k_is)
    (case i_bBack => k_is)
    (case l_bBack => k_is)
    (case c_bBack => k_is)
    (case k_bBack => k_is)
    (case a_bAgain => k_is)
    (case i_bAgain => k_is)
    (case l_bAgain => k_is)
    (case c_bAgain => k_is)
    (case k_bAgain => k_is)
    (case a_bLog => k_is)
    (case i_bLog => k_is)
    (case l_bLog => k_is)
    (case c_bLog => k_is)
    (case k_bLog => k_is)
    (case a_bCopied => k_is)
    (case i_bCopied => k_is)
    (case l_bCopied => k_is)
    (case c_bCopied => k_is)
    (case k_bCopied => k_is)
    (case a_bLen => k_is)
    (case i_bLen => k_is)
    (case l_bLen => k_is)
    (case c_bLen => k_is)
    (case k_bLen => k_is)
    (case a_bEq => k_is)
    (case i_bEq => k_is)
    (case l_bEq => k_is)
    (case c_bEq => k_is)
    (case k_bEq => k_is)
