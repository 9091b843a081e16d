import PyProof.Rows.All
import Wide.All
import OpenK.AllK
import Wide.FinOn
import HandS.ForMost
import HandS.Zip
import HandS.TupAny
import HandS.TupMul
import HandS.Deep
import HandS.Style
import HandS.SetFor
import HandS.Strs
import HandS.Walk
import HandS.IsInst
import HandS.Conv
import HandS.Wide
import HandS.WideBits
import HandS.Evl
import HandS.MakeKwOnly
import KE.GoesMore
import KE.GoesEnumKw
import KE.KBits
import PySem.Challenge.RW_calledseats_k02_orders_and_halves
set_option Elab.async false
set_option linter.all false
set_option maxRecDepth 100000
set_option maxHeartbeats 4000000


namespace CZ
open PySem PySem.Spec PyProof.Rows L2
open PySem.Sem (wp)
/-- one draw of a zip: strict or not -/
def zdraw (b : Bool) (it : Value) : Sem (Option Value) := if b = true then Builtin.SmallTypes.nextOrEnd it else (Builtin.SmallTypes.nextOf it >>= fun x => pure (some x))
/-- a zip object: f0 what it has handed out, b its strictness -/
abbrev ZipO (h : Heap) (z TI TO : Addr) (f0 : Value) (b : Bool) : Prop := h.get? z = some { cls := .type "zip", data := .fields #[f0, .bool false, .bool b, .ref TI, .ref TO] }
abbrev TupO (h : Heap) (T : Addr) (vs : Array Value) : Prop := h.get? T = some { cls := .type "tuple", data := .seq vs }
theorem val_b (b : Bool) : (Value.bool b == Value.bool true) = b := by cases b <;> rfl
section
variable {prog : Program} {w : World} {A : Around} {E : Value → Shared → Prop} {s : Shared} {b : Bool}
theorem zdraw_item {it : Addr} {fp : List Addr} {n i : Nat} {P : Nat → Value → Prop} {St : Nat → Heap → Prop} {Q : Option Value → Shared → Prop} (D : Draws prog w A it fp n P St) (hi : i < n) (st : St i s.heap)
    (hQ : ∀ x h' tk, P i x → St (i + 1) h' → Heap.SameBut it s.heap h' → Q (some x) { s with heap := h', toks := tk }) : wpAny (model prog w) A (zdraw b (.ref it)) Q E s := by
  cases b with
  | false => exact wpAny_bind (m := Builtin.SmallTypes.nextOf (.ref it)) (D.item i s _ _ hi st fun x h' tk p st' sb => wpAny_pure (hQ x h' tk p st' sb))
  | true =>
    show wpAny _ _ (Builtin.SmallTypes.nextOrEnd (.ref it)) _ _ _
    unfold Builtin.SmallTypes.nextOrEnd
    exact wpAny_bind (wpAny_attempt (D.item i s _ _ hi st fun x h' tk p st' sb => wpAny_pure (hQ x h' tk p st' sb)))
theorem zend_strict {it : Addr} {fp : List Addr} {n : Nat} {P : Nat → Value → Prop} {St : Nat → Heap → Prop} {Q : Option Value → Shared → Prop} (D : Draws prog w A it fp n P St) (st : St n s.heap)
    (hQ : ∀ h', Heap.ExtBut it s.heap h' → Q none { s with heap := h' }) : wpAny (model prog w) A (Builtin.SmallTypes.nextOrEnd (.ref it)) Q E s := by
  unfold Builtin.SmallTypes.nextOrEnd
  refine wpAny_bind (wpAny_attempt (D.done s _ _ st fun h' e eb he => ?_))
  obtain ⟨o, ho, hc⟩ := he
  exact wpAny_bind (wpAny_isInstance (T := "StopIteration") (b := true) ⟨o, ho, hc⟩ isSubtype_stop (wpAny_pure (hQ h' eb)))
theorem upd_tup {T : Addr} {vs : Array Value} {x : Value} {k : Nat} {Q : Unit → Shared → Prop} (hT : TupO s.heap T vs) (hz : vs.size ≤ 8)
    (h : ∀ h', TupO h' T (vs.setIfInBounds k x) → Heap.SameBut T s.heap h' → Q () { s with heap := h' }) : wpAny (model prog w) A (updateSeq T (·.setIfInBounds k x)) Q E s := by
  have z8 : (8 : Nat) ≤ sizeLine := by decide
  refine wpAny_updateSeq hT rfl (h _ ?_ (Heap.SameBut.update ..)) (Nat.le_trans hz z8) (by rw [Array.size_setIfInBounds]; exact Nat.le_succ_of_le (Nat.le_trans hz z8))
  unfold TupO
  rw [Heap.get?_update_self _ hT rfl]
  simp [Obj.mapSeq]
theorem iter_zip {z TI TO : Addr} {f0 : Value} {Q : Value → Shared → Prop} (hz : ZipO s.heap z TI TO f0 b) (h : Q (.ref z) s) : wpAny (model prog w) A (pyIter (.ref z)) Q E s := by
  have hT : s.TypeIs (.ref z) "zip" := ⟨_, hz, rfl⟩
  exact wpAny_pyIter_slot hT F.slot_zip_iter (wpAny_call_entry F.slot_zip_iter hT F.entry_zip_iter (wpAny_pure ⟨_, rfl, "zip", _, hT, F.slot_zip_next.lookup, h⟩) (F.args_zip_iter_1 _))
/-- the tuple that was handed out is let go -/
theorem go_zip {elts : List Expr} {x1} {pos : Pos} {z TI TO T : Addr} {Q : Unit → Shared → Prop} (hz : ZipO s.heap z TI TO (rawInt T) b)
    (hQ : ∀ h', ZipO h' z TI TO .none b → Heap.SameBut z s.heap h' → Q () { s with heap := h' }) : wpAny (model prog w) A (letOwnedTupleGo (.Tuple elts x1 pos) (.ref z) (.ref T)) Q E s := by
  unfold letOwnedTupleGo
  refine wpAny_bind (wpAny_load hz ?_)
  show wpAny _ _ (ite _ _ _) Q E s
  rw [if_pos (by simp)]
  exact wpAny_bind (wpAny_rule (wpAny_setField_rec hz (by simp) fun h' hz' hs' => hQ h' hz' hs'))
/-- the StopIteration that a zip ends by -/
theorem stop_it {Q : Fin → Shared → Prop} (hh : A.handled = none) (hE : ∀ h' e, (∀ c o, s.heap.get? c = some o → h'.get? c = some o) → (∃ o, h'.get? e = some o ∧ o.cls = .type "StopIteration") → E (.ref e) { s with heap := h' }) :
    wpAny (model prog w) A (PySem.Builtin.SmallTypes.stopIteration : Sem Fin) Q E s := by
  unfold PySem.Builtin.SmallTypes.stopIteration
  show wpAny _ _ (newExc (.type "StopIteration") [] >>= _) _ _ _
  refine wpAny_bind ?_
  simp only [newExc, newTuple]
  refine wpAny_bind (wpAny_newObj_type ?_ (by size_fits))
  refine wpAny_bind (m := firstArgMember _ _) (wpAny_of_eq (a := Value.none) (by first | rfl | (simp only [firstArgMember]; rfl)) ?_)
  refine wpAny_newObj_type ?_ (by size_fits)
  simp only [raiseNew]
  refine wpAny_bind (wpAny_handled ?_)
  rw [hh]
  exact wpAny_bind (wpAny_pure (wpAny_throw (hE _ _ (fun c o e => Heap.get?_push_of_some _ (Heap.get?_push_of_some _ e)) ⟨_, Heap.get?_push_size _ rfl, rfl⟩)))
end
end CZ

namespace CZ
open PySem PySem.Spec PyProof.Rows L2
open PySem.Sem (wp)
/-- the cells of a zip over 2 iterators lie apart -/
structure Sep2 (z TI TO i1 i2 : Addr) (fp1 fp2 : List Addr) : Prop where
  zTO : z ≠ TO
  zTI : z ≠ TI
  TOTI : TO ≠ TI
  m1 : i1 ∈ fp1
  z1 : z ∉ fp1
  T1 : TO ∉ fp1
  I1 : TI ≠ i1
  s2_1 : i2 ∉ fp1
  m2 : i2 ∈ fp2
  z2 : z ∉ fp2
  T2 : TO ∉ fp2
  I2 : TI ≠ i2
  s1_2 : i1 ∉ fp2
section
variable {prog : Program} {w : World} {A : Around} {E : Value → Shared → Prop} {s : Shared} {b : Bool}
theorem next_item2 {z TI TO i1 i2 : Addr} {fp1 fp2 : List Addr} {n1 n2 i : Nat} {P1 P2 : Nat → Value → Prop} {St1 St2 : Nat → Heap → Prop} {a1 a2 : Value} {Q : Value → Shared → Prop} (S : Sep2 z TI TO i1 i2 fp1 fp2) (D1 : Draws prog w A i1 fp1 n1 P1 St1) (D2 : Draws prog w A i2 fp2 n2 P2 St2)
    (hz : ZipO s.heap z TI TO .none b) (hTI : TupO s.heap TI #[.ref i1, .ref i2]) (hTO : TupO s.heap TO #[a1, a2]) (st1 : St1 i s.heap) (st2 : St2 i s.heap) (hi1 : i < n1) (hi2 : i < n2)
    (hQ : ∀ x1 x2 h' tk, P1 i x1 → P2 i x2 → ZipO h' z TI TO (rawInt s.heap.objs.size) b → TupO h' TO #[x1, x2] → St1 (i + 1) h' → St2 (i + 1) h' → TupO h' s.heap.objs.size #[x1, x2] →
      (∀ c o, c ≠ z → c ≠ TO → c ≠ i1 → c ≠ i2 → s.heap.get? c = some o → h'.get? c = some o) → Q (.ref s.heap.objs.size) { s with heap := h', toks := tk }) :
    wpAny (model prog w) A (Builtin.«zip.__next__» ⟨[.ref z], []⟩) (fun fin s' => ∃ v, fin = .done (.ret v) ∧ Q v s') E s := by
  obtain ⟨hp, g, d, tk0, os⟩ := s
  refine wpAny_bind (m := field (.ref z) 2) (wpAny_field hz rfl (x := .bool b) rfl ?_)
  refine wpAny_bind (m := field (.ref z) 3) (wpAny_field hz rfl (x := .ref TI) rfl ?_)
  refine wpAny_bind (wpAny_seqItems hTI rfl ?_)
  show wpAny _ _ (Builtin.SmallTypes.ownedTupleIsFree (.ref z) >>= _) _ _ _
  rw [val_b]
  refine wpAny_bind ?_
  unfold Builtin.SmallTypes.ownedTupleIsFree
  refine wpAny_bind (wpAny_field hz rfl (x := .none) rfl (wpAny_pure ?_))
  simp only [if_true]
  refine wpAny_bind (wpAny_rule (wpAny_bind (wpAny_field hz rfl (x := .ref TO) rfl ?_)))
  refine wpAny_bind (wpAny_setField_rec hz (by simp) fun g0 hz0 hs0 => wpAny_bind ?_)
  replace hs0 : Heap.SameBut z hp g0 := hs0
  replace hz0 : ZipO g0 z TI TO .ellipsis b := hz0
  have hT0 : TupO g0 TO #[a1, a2] := hs0.extBut _ _ S.zTO.symm hTO
  have t1_0 : St1 i g0 := D1.frame _ _ _ st1 fun c hc o e => hs0.extBut c o (fun q => S.z1 (q ▸ hc)) e
  have t2_0 : St2 i g0 := D2.frame _ _ _ st2 fun c hc o e => hs0.extBut c o (fun q => S.z2 (q ▸ hc)) e
  have k0 : ∀ c o, c ≠ z → c ≠ TO → c ≠ i1 → c ≠ i2 → hp.get? c = some o → g0.get? c = some o := fun c o q0 _ _ _ e => hs0.extBut c o q0 e
  simp only [List.zipIdx_cons, List.zipIdx_nil, List.forIn_cons, List.forIn_nil]
  refine wpAny_bind (wpAny_bind (wpAny_onRaise (m := zdraw b (.ref i1)) (zdraw_item (s := ⟨g0, g, d, tk0, os⟩) D1 hi1 t1_0 fun x1 d1 tk1 p1 n1 hd1 => ?_)))
  replace hd1 : Heap.SameBut i1 g0 d1 := hd1
  have hU1 : TupO d1 TO #[a1, a2] := hd1.extBut _ _ (fun q => S.T1 (q ▸ S.m1)) hT0
  refine wpAny_bind (wpAny_seqItems (s := ⟨d1, g, d, tk1, os⟩) hU1 rfl ?_)
  refine wpAny_bind (upd_tup (s := ⟨d1, g, d, tk1, os⟩) hU1 (by simp) fun g1 hT1 hs1 => ?_)
  replace hs1 : Heap.SameBut TO d1 g1 := hs1
  replace hT1 : TupO g1 TO #[x1, a2] := hT1
  have hz1 : ZipO g1 z TI TO .ellipsis b := hs1.extBut _ _ S.zTO (hd1.extBut _ _ (fun q => S.z1 (q ▸ S.m1)) hz0)
  have t1_1 : St1 (i + 1) g1 := D1.frame _ _ _ n1 fun c hc o e => hs1.extBut c o (fun q => S.T1 (q ▸ hc)) e
  have t2_1 : St2 i g1 := D2.frame _ _ _ t2_0 fun c hc o e => hs1.extBut c o (fun q => S.T2 (q ▸ hc)) (hd1.extBut c o (fun q => S.s1_2 (q ▸ hc)) e)
  have k1 : ∀ c o, c ≠ z → c ≠ TO → c ≠ i1 → c ≠ i2 → hp.get? c = some o → g1.get? c = some o := fun c o qz qT q1 q2 e => hs1.extBut c o qT (hd1.extBut c o q1 (k0 c o qz qT q1 q2 e))
  have e1 : g1.objs.size = g0.objs.size := by rw [hs1.1, hd1.1]
  refine wpAny_bind (wpAny_letGo (wpAny_pure ?_))
  refine wpAny_bind (wpAny_bind (wpAny_onRaise (m := zdraw b (.ref i2)) (zdraw_item (s := ⟨g1, g, d, tk1, os⟩) D2 hi2 t2_1 fun x2 d2 tk2 p2 n2 hd2 => ?_)))
  replace hd2 : Heap.SameBut i2 g1 d2 := hd2
  have hU2 : TupO d2 TO #[x1, a2] := hd2.extBut _ _ (fun q => S.T2 (q ▸ S.m2)) hT1
  refine wpAny_bind (wpAny_seqItems (s := ⟨d2, g, d, tk2, os⟩) hU2 rfl ?_)
  refine wpAny_bind (upd_tup (s := ⟨d2, g, d, tk2, os⟩) hU2 (by simp) fun g2 hT2 hs2 => ?_)
  replace hs2 : Heap.SameBut TO d2 g2 := hs2
  replace hT2 : TupO g2 TO #[x1, x2] := hT2
  have hz2 : ZipO g2 z TI TO .ellipsis b := hs2.extBut _ _ S.zTO (hd2.extBut _ _ (fun q => S.z2 (q ▸ S.m2)) hz1)
  have t1_2 : St1 (i + 1) g2 := D1.frame _ _ _ t1_1 fun c hc o e => hs2.extBut c o (fun q => S.T1 (q ▸ hc)) (hd2.extBut c o (fun q => S.s2_1 (q ▸ hc)) e)
  have t2_2 : St2 (i + 1) g2 := D2.frame _ _ _ n2 fun c hc o e => hs2.extBut c o (fun q => S.T2 (q ▸ hc)) e
  have k2 : ∀ c o, c ≠ z → c ≠ TO → c ≠ i1 → c ≠ i2 → hp.get? c = some o → g2.get? c = some o := fun c o qz qT q1 q2 e => hs2.extBut c o qT (hd2.extBut c o q2 (k1 c o qz qT q1 q2 e))
  have e2 : g2.objs.size = g1.objs.size := by rw [hs2.1, hd2.1]
  refine wpAny_bind (wpAny_letGo (wpAny_pure ?_))
  refine wpAny_pure ?_
  refine wpAny_bind (wpAny_seqItems (s := ⟨g2, g, d, tk2, os⟩) hT2 rfl ?_)
  refine wpAny_bind (wpAny_newTuple ?_)
  have hsz : g2.objs.size = hp.objs.size := by rw [e2, e1, hs0.1]
  have hlt : z < g2.objs.size := Heap.lt_size hz2
  refine wpAny_bind ?_
  unfold Builtin.SmallTypes.ownedTupleHandOut
  have hy : ZipO (g2.push { cls := .type "tuple", data := .seq #[x1, x2] }) z TI TO .ellipsis b := Heap.get?_push_of_some _ hz2
  refine wpAny_bind (wpAny_setField_rec hy (by simp) fun u1 hu1 hv1 => wpAny_setField_rec hu1 (by simp) fun u2 hu2 hv2 => ?_)
  have up : ∀ c o, c ≠ z → g2.get? c = some o → u2.get? c = some o := fun c o q e => hv2.extBut c o q (hv1.extBut c o q (Heap.get?_push_of_some _ e))
  have hN : TupO u2 g2.objs.size #[x1, x2] := hv2.extBut _ _ (Nat.ne_of_gt hlt) (hv1.extBut _ _ (Nat.ne_of_gt hlt) (Heap.get?_push_size _ rfl))
  have hZ : ZipO u2 z TI TO (rawInt g2.objs.size) b := hu2
  rw [hsz] at hN hZ
  refine wpAny_pure ⟨_, rfl, ?_⟩
  show Q (.ref g2.objs.size) ⟨u2, g, d, tk2, os⟩
  rw [hsz]
  exact hQ x1 x2 u2 tk2 p1 p2 hZ (up _ _ S.zTO.symm hT2) (D1.frame _ _ _ t1_2 fun c hc o e => up c o (fun q => S.z1 (q ▸ hc)) e) (D2.frame _ _ _ t2_2 fun c hc o e => up c o (fun q => S.z2 (q ▸ hc)) e) hN fun c o qz qT q1 q2 e => up c o qz (k2 c o qz qT q1 q2 e)
theorem next_end2 {z TI TO i1 i2 : Addr} {fp1 fp2 : List Addr} {n : Nat} {P1 P2 : Nat → Value → Prop} {St1 St2 : Nat → Heap → Prop} {a1 a2 : Value} {Q : Fin → Shared → Prop} (hh : A.handled = none) (S : Sep2 z TI TO i1 i2 fp1 fp2) (D1 : Draws prog w A i1 fp1 n P1 St1) (D2 : Draws prog w A i2 fp2 n P2 St2)
    (hz : ZipO s.heap z TI TO .none b) (hTI : TupO s.heap TI #[.ref i1, .ref i2]) (hTO : TupO s.heap TO #[a1, a2]) (st1 : St1 n s.heap) (st2 : St2 n s.heap)
    (hE : ∀ h' e, (∀ c o, c ≠ z → c ≠ TO → c ≠ i1 → c ≠ i2 → s.heap.get? c = some o → h'.get? c = some o) → (∃ o, h'.get? e = some o ∧ o.cls = .type "StopIteration") → E (.ref e) { s with heap := h' }) :
    wpAny (model prog w) A (Builtin.«zip.__next__» ⟨[.ref z], []⟩) Q E s := by
  obtain ⟨hp, g, d, tk0, os⟩ := s
  refine wpAny_bind (m := field (.ref z) 2) (wpAny_field hz rfl (x := .bool b) rfl ?_)
  refine wpAny_bind (m := field (.ref z) 3) (wpAny_field hz rfl (x := .ref TI) rfl ?_)
  refine wpAny_bind (wpAny_seqItems hTI rfl ?_)
  show wpAny _ _ (Builtin.SmallTypes.ownedTupleIsFree (.ref z) >>= _) _ _ _
  rw [val_b]
  refine wpAny_bind ?_
  unfold Builtin.SmallTypes.ownedTupleIsFree
  refine wpAny_bind (wpAny_field hz rfl (x := .none) rfl (wpAny_pure ?_))
  simp only [if_true]
  refine wpAny_bind (wpAny_rule (wpAny_bind (wpAny_field hz rfl (x := .ref TO) rfl ?_)))
  refine wpAny_bind (wpAny_setField_rec hz (by simp) fun g0 hz0 hs0 => wpAny_bind ?_)
  replace hs0 : Heap.SameBut z hp g0 := hs0
  replace hz0 : ZipO g0 z TI TO .ellipsis b := hz0
  have t1_0 : St1 n g0 := D1.frame _ _ _ st1 fun c hc o e => hs0.extBut c o (fun q => S.z1 (q ▸ hc)) e
  have t2_0 : St2 n g0 := D2.frame _ _ _ st2 fun c hc o e => hs0.extBut c o (fun q => S.z2 (q ▸ hc)) e
  simp only [List.zipIdx_cons, List.zipIdx_nil, List.forIn_cons, List.forIn_nil]
  refine wpAny_bind (wpAny_bind (wpAny_onRaise ?_))
  cases b with
  | false =>
    refine wpAny_bind (m := Builtin.SmallTypes.nextOf (.ref i1)) (D1.done ⟨g0, g, d, tk0, os⟩ _ _ t1_0 fun y e hy he => ?_)
    replace hy : Heap.ExtBut i1 g0 y := hy
    obtain ⟨oe, hoe, hce⟩ := he
    replace hoe : y.get? e = some oe := hoe
    have hzy : ZipO y z TI TO .ellipsis false := hy _ _ (fun q => S.z1 (q ▸ S.m1)) hz0
    have hez : e ≠ z := fun x => by subst x; rw [hzy] at hoe; cases hoe; simp at hce
    refine wpAny_setField_rec (s := ⟨y, g, d, tk0, os⟩) hzy (by simp) fun y2 _ hv => ?_
    replace hv : Heap.SameBut z y y2 := hv
    exact hE y2 e (fun c o qz qT q1 q2 x => hv.extBut c o qz (hy c o q1 (hs0.extBut c o qz x))) ⟨oe, hv.extBut _ _ hez hoe, hce⟩
  | true =>
    refine zend_strict (s := ⟨g0, g, d, tk0, os⟩) D1 t1_0 fun y hy => ?_
    replace hy : Heap.ExtBut i1 g0 y := hy
    have hzy : ZipO y z TI TO .ellipsis true := hy _ _ (fun q => S.z1 (q ▸ S.m1)) hz0
    have t2_1 : St2 n y := D2.frame _ _ _ t2_0 fun c hc o e => hy c o (fun q => S.s1_2 (q ▸ hc)) e
    refine wpAny_bind (wpAny_setField_rec (s := ⟨y, g, d, tk0, os⟩) hzy (by simp) fun y1 _ hv1 => ?_)
    replace hv1 : Heap.SameBut z y y1 := hv1
    have r2_1 : St2 n y1 := D2.frame _ _ _ t2_1 fun c hc o e => hv1.extBut c o (fun q => S.z2 (q ▸ hc)) e
    have k1 : ∀ c o, c ≠ z → c ≠ TO → c ≠ i1 → c ≠ i2 → hp.get? c = some o → y1.get? c = some o := fun c o qz qT q1 q2 e => hv1.extBut c o qz (hy c o q1 (hs0.extBut c o qz e))
    refine wpAny_bind ?_
    refine wpAny_bind ?_
    simp only [List.drop_succ_cons, List.drop_zero, List.zipIdx_cons, List.zipIdx_nil, List.forIn_cons, List.forIn_nil]
    refine wpAny_bind (wpAny_bind (zend_strict (s := ⟨y1, g, d, tk0, os⟩) D2 r2_1 fun y2 hy2 => ?_))
    replace hy2 : Heap.ExtBut i2 y1 y2 := hy2
    have k2 : ∀ c o, c ≠ z → c ≠ TO → c ≠ i1 → c ≠ i2 → hp.get? c = some o → y2.get? c = some o := fun c o qz qT q1 q2 e => hy2 c o q2 (k1 c o qz qT q1 q2 e)
    refine wpAny_pure ?_
    refine wpAny_pure ?_
    exact wpAny_bind (wpAny_rule (stop_it (s := ⟨y2, g, d, tk0, os⟩) hh fun h2 e kk he => hE h2 e (fun c o qz qT q1 q2 x => kk c o (k2 c o qz qT q1 q2 x)) he))
theorem py_item2 {z TI TO i1 i2 : Addr} {fp1 fp2 : List Addr} {n1 n2 i : Nat} {P1 P2 : Nat → Value → Prop} {St1 St2 : Nat → Heap → Prop} {a1 a2 : Value} {Q : Option Value → Shared → Prop} (S : Sep2 z TI TO i1 i2 fp1 fp2) (D1 : Draws prog w A.in1 i1 fp1 n1 P1 St1) (D2 : Draws prog w A.in1 i2 fp2 n2 P2 St2)
    (hz : ZipO s.heap z TI TO .none b) (hTI : TupO s.heap TI #[.ref i1, .ref i2]) (hTO : TupO s.heap TO #[a1, a2]) (st1 : St1 i s.heap) (st2 : St2 i s.heap) (hi1 : i < n1) (hi2 : i < n2)
    (hQ : ∀ x1 x2 h' tk, P1 i x1 → P2 i x2 → ZipO h' z TI TO (rawInt s.heap.objs.size) b → TupO h' TO #[x1, x2] → St1 (i + 1) h' → St2 (i + 1) h' → TupO h' s.heap.objs.size #[x1, x2] →
      (∀ c o, c ≠ z → c ≠ TO → c ≠ i1 → c ≠ i2 → s.heap.get? c = some o → h'.get? c = some o) → Q (some (.ref s.heap.objs.size)) { s with heap := h', toks := tk }) : wpAny (model prog w) A (pyNext (.ref z)) Q E s := by
  have hT : s.TypeIs (.ref z) "zip" := ⟨_, hz, rfl⟩
  unfold pyNext
  refine wpAny_bind (wpAny_attempt (wpAny_callSpecial?_slot (name := Str.ofString "__next__") hT F.slot_zip_next (wpAny_call_entry F.slot_zip_next hT F.entry_zip_next ?_ (F.args_zip_next_1 _))))
  exact next_item2 S D1 D2 hz hTI hTO st1 st2 hi1 hi2 fun x1 x2 h2 tk p1 p2 q1 q2 u1 u2 q3 q4 => wpAny_pure (hQ x1 x2 h2 tk p1 p2 q1 q2 u1 u2 q3 q4)
theorem py_end2 {z TI TO i1 i2 : Addr} {fp1 fp2 : List Addr} {n : Nat} {P1 P2 : Nat → Value → Prop} {St1 St2 : Nat → Heap → Prop} {a1 a2 : Value} {Q : Option Value → Shared → Prop} (hh : A.handled = none) (S : Sep2 z TI TO i1 i2 fp1 fp2) (D1 : Draws prog w A.in1 i1 fp1 n P1 St1) (D2 : Draws prog w A.in1 i2 fp2 n P2 St2)
    (hz : ZipO s.heap z TI TO .none b) (hTI : TupO s.heap TI #[.ref i1, .ref i2]) (hTO : TupO s.heap TO #[a1, a2]) (st1 : St1 n s.heap) (st2 : St2 n s.heap)
    (hQ : ∀ h', (∀ c o, c ≠ z → c ≠ TO → c ≠ i1 → c ≠ i2 → s.heap.get? c = some o → h'.get? c = some o) → Q none { s with heap := h' }) : wpAny (model prog w) A (pyNext (.ref z)) Q E s := by
  have hT : s.TypeIs (.ref z) "zip" := ⟨_, hz, rfl⟩
  unfold pyNext
  refine wpAny_bind (wpAny_attempt (wpAny_callSpecial?_slot (name := Str.ofString "__next__") hT F.slot_zip_next (wpAny_call_entry F.slot_zip_next hT F.entry_zip_next ?_ (F.args_zip_next_1 _))))
  refine next_end2 (A := A.in1) hh S D1 D2 hz hTI hTO st1 st2 fun h2 e kk he => ?_
  obtain ⟨o, ho, hc⟩ := he
  exact wpAny_bind (wpAny_isInstance (T := "StopIteration") (b := true) ⟨o, ho, hc⟩ isSubtype_stop (wpAny_pure (hQ _ kk)))
theorem typeCall_strict2 (v1 v2 x : Value) : checkTypeCall "zip" ⟨[v1, v2], [(Str.ofString "strict", x)]⟩ = pure () := by kernel_rfl
theorem newCall_strict2 (v1 v2 x : Value) : checkBuiltinCall "zip.__new__" ⟨[.type "zip", v1, v2], [(Str.ofString "strict", x)]⟩ = pure () := by kernel_rfl
theorem initArgs_strict2 (obj v1 v2 x : Value) : argsOk "object.__init__" ⟨[obj, v1, v2], [(Str.ofString "strict", x)]⟩ := by unfold argsOk; kernel_rfl
abbrev sT2 (h : Heap) (o1 o2 : Obj) : Heap := (((h.push o1).push o2).push { cls := .type "tuple", data := .seq #[.ref h.objs.size, .ref (h.push o1).objs.size] })
abbrev sO2 (h : Heap) (o1 o2 : Obj) : Heap := (sT2 h o1 o2).push { cls := .type "tuple", data := .seq #[.none, .none] }
abbrev sZ2 (h : Heap) (o1 o2 : Obj) : Heap := (sO2 h o1 o2).push { cls := .type "zip", data := .fields #[.none, .bool false, .bool true, .ref ((h.push o1).push o2).objs.size, .ref (sT2 h o1 o2).objs.size] }
theorem meets_strict2 {v1 v2 : Value} {o1 o2 : Obj} {G1 G2 : Heap → Prop} (B1 : Begins v1 o1 G1) (B2 : Begins v2 o2 G2) :
    Meets (Builtin.«zip.__new__» ⟨[.type "zip", v1, v2], [(Str.ofString "strict", .bool true)]⟩) (fun _ R s => (G1 s.heap ∧ G2 s.heap) ∧ R (.ok (.ret (.ref (sO2 s.heap o1 o2).objs.size))) { s with heap := (sZ2 s.heap o1 o2) }) :=
  .of_wp fun prog w A R s h => by
    obtain ⟨hp, g, d, tk, os⟩ := s
    obtain ⟨⟨h1, h2⟩, h⟩ := h
    have hsub := sub_zip
    have e1 : (Str.ofString "strict" != ("strict" : Str)) = false := by decide +kernel
    have w1 : ∀ {A' : Around} {E : Value → Shared → Prop} {Q : Value → Shared → Prop}, Q (.ref hp.objs.size) ⟨(hp.push o1), g, d, tk, os⟩ → wpAny (model prog w) A' (pyIter v1) Q E ⟨hp, g, d, tk, os⟩ := fun q => B1.iter prog w _ _ ⟨hp, g, d, tk, os⟩ _ (B1.keeps _ _ h1 fun c u e => e) q
    have w2 : ∀ {A' : Around} {E : Value → Shared → Prop} {Q : Value → Shared → Prop}, Q (.ref (hp.push o1).objs.size) ⟨((hp.push o1).push o2), g, d, tk, os⟩ → wpAny (model prog w) A' (pyIter v2) Q E ⟨(hp.push o1), g, d, tk, os⟩ := fun q => B2.iter prog w _ _ ⟨(hp.push o1), g, d, tk, os⟩ _ (B2.keeps _ _ h2 fun c u e => (Heap.get?_push_of_some _ e)) q
    wp_walk using w1, w2
    exact ⟨_, rfl, h⟩
/-- zip(.., strict=True) of 2: its new cells -/
theorem begins_strict2 {v1 v2 : Value} {o1 o2 : Obj} {G1 G2 : Heap → Prop} {Q : Value → Shared → Prop} (B1 : Begins v1 o1 G1) (B2 : Begins v2 o2 G2) (h1 : G1 s.heap) (h2 : G2 s.heap)
    (h : ∀ h', ZipO h' (s.heap.objs.size + 4) (s.heap.objs.size + 2) (s.heap.objs.size + 3) .none true → TupO h' (s.heap.objs.size + 2) #[.ref s.heap.objs.size, .ref (s.heap.objs.size + 1)] → TupO h' (s.heap.objs.size + 3) #[.none, .none] → h'.get? s.heap.objs.size = some o1 → h'.get? (s.heap.objs.size + 1) = some o2 → (∀ c o, s.heap.get? c = some o → h'.get? c = some o) → Q (.ref (s.heap.objs.size + 4)) { s with heap := h' }) :
    wpAny (model prog w) A (call (.type "zip") [v1, v2] [(Str.ofString "strict", .bool true)]) Q E s := by
  refine callType_newKw F.called_zip (by decide) (typeCall_strict2 _ _ _) (newCall_strict2 _ _ _) (fun obj => initArgs_strict2 obj _ _ _) F.entry_zip_new (meets_strict2 B1 B2) ⟨⟨h1, h2⟩, ?_⟩
  have z1 : (s.heap.push o1).objs.size = s.heap.objs.size + 1 := by rw [Heap.size_push]
  have z2 : ((s.heap.push o1).push o2).objs.size = s.heap.objs.size + 2 := by rw [Heap.size_push, z1]
  have z3 : (sT2 s.heap o1 o2).objs.size = s.heap.objs.size + 3 := by rw [Heap.size_push, z2]
  have z4 : (sO2 s.heap o1 o2).objs.size = s.heap.objs.size + 4 := by rw [Heap.size_push, z3]
  have z5 : (sZ2 s.heap o1 o2).objs.size = s.heap.objs.size + 5 := by rw [Heap.size_push, z4]
  have q0 : (sZ2 s.heap o1 o2).get? s.heap.objs.size = some o1 := (Heap.get?_push_of_some _ (Heap.get?_push_of_some _ (Heap.get?_push_of_some _ (Heap.get?_push_of_some _ (Heap.get?_push_size _ B1.free)))))
  have q1 : (sZ2 s.heap o1 o2).get? (s.heap.push o1).objs.size = some o2 := (Heap.get?_push_of_some _ (Heap.get?_push_of_some _ (Heap.get?_push_of_some _ (Heap.get?_push_size _ B2.free))))
  rw [z1] at q1
  have q2 : (sZ2 s.heap o1 o2).get? ((s.heap.push o1).push o2).objs.size = some ({ cls := .type "tuple", data := .seq #[.ref s.heap.objs.size, .ref (s.heap.push o1).objs.size] } : Obj) := (Heap.get?_push_of_some _ (Heap.get?_push_of_some _ (Heap.get?_push_size _ rfl)))
  rw [z2] at q2
  have q3 : (sZ2 s.heap o1 o2).get? (sT2 s.heap o1 o2).objs.size = some ({ cls := .type "tuple", data := .seq #[.none, .none] } : Obj) := (Heap.get?_push_of_some _ (Heap.get?_push_size _ rfl))
  rw [z3] at q3
  have q4 : (sZ2 s.heap o1 o2).get? (sO2 s.heap o1 o2).objs.size = some ({ cls := .type "zip", data := .fields #[.none, .bool false, .bool true, .ref ((s.heap.push o1).push o2).objs.size, .ref (sT2 s.heap o1 o2).objs.size] } : Obj) := (Heap.get?_push_size _ rfl)
  rw [z4] at q4
  rw [z1] at q2
  rw [z3, z2] at q4
  show _ ∧ _
  rw [z4]
  exact ⟨⟨_, q4, rfl⟩, h _ q4 q2 q3 q0 q1 fun c o e => (Heap.get?_push_of_some _ (Heap.get?_push_of_some _ (Heap.get?_push_of_some _ (Heap.get?_push_of_some _ (Heap.get?_push_of_some _ e)))))⟩
end
/-- the cells of a zip over 3 iterators lie apart -/
structure Sep3 (z TI TO i1 i2 i3 : Addr) (fp1 fp2 fp3 : List Addr) : Prop where
  zTO : z ≠ TO
  zTI : z ≠ TI
  TOTI : TO ≠ TI
  m1 : i1 ∈ fp1
  z1 : z ∉ fp1
  T1 : TO ∉ fp1
  I1 : TI ≠ i1
  s2_1 : i2 ∉ fp1
  s3_1 : i3 ∉ fp1
  m2 : i2 ∈ fp2
  z2 : z ∉ fp2
  T2 : TO ∉ fp2
  I2 : TI ≠ i2
  s1_2 : i1 ∉ fp2
  s3_2 : i3 ∉ fp2
  m3 : i3 ∈ fp3
  z3 : z ∉ fp3
  T3 : TO ∉ fp3
  I3 : TI ≠ i3
  s1_3 : i1 ∉ fp3
  s2_3 : i2 ∉ fp3
section
variable {prog : Program} {w : World} {A : Around} {E : Value → Shared → Prop} {s : Shared} {b : Bool}
theorem next_item3 {z TI TO i1 i2 i3 : Addr} {fp1 fp2 fp3 : List Addr} {n1 n2 n3 i : Nat} {P1 P2 P3 : Nat → Value → Prop} {St1 St2 St3 : Nat → Heap → Prop} {a1 a2 a3 : Value} {Q : Value → Shared → Prop} (S : Sep3 z TI TO i1 i2 i3 fp1 fp2 fp3) (D1 : Draws prog w A i1 fp1 n1 P1 St1) (D2 : Draws prog w A i2 fp2 n2 P2 St2) (D3 : Draws prog w A i3 fp3 n3 P3 St3)
    (hz : ZipO s.heap z TI TO .none b) (hTI : TupO s.heap TI #[.ref i1, .ref i2, .ref i3]) (hTO : TupO s.heap TO #[a1, a2, a3]) (st1 : St1 i s.heap) (st2 : St2 i s.heap) (st3 : St3 i s.heap) (hi1 : i < n1) (hi2 : i < n2) (hi3 : i < n3)
    (hQ : ∀ x1 x2 x3 h' tk, P1 i x1 → P2 i x2 → P3 i x3 → ZipO h' z TI TO (rawInt s.heap.objs.size) b → TupO h' TO #[x1, x2, x3] → St1 (i + 1) h' → St2 (i + 1) h' → St3 (i + 1) h' → TupO h' s.heap.objs.size #[x1, x2, x3] →
      (∀ c o, c ≠ z → c ≠ TO → c ≠ i1 → c ≠ i2 → c ≠ i3 → s.heap.get? c = some o → h'.get? c = some o) → Q (.ref s.heap.objs.size) { s with heap := h', toks := tk }) :
    wpAny (model prog w) A (Builtin.«zip.__next__» ⟨[.ref z], []⟩) (fun fin s' => ∃ v, fin = .done (.ret v) ∧ Q v s') E s := by
  obtain ⟨hp, g, d, tk0, os⟩ := s
  refine wpAny_bind (m := field (.ref z) 2) (wpAny_field hz rfl (x := .bool b) rfl ?_)
  refine wpAny_bind (m := field (.ref z) 3) (wpAny_field hz rfl (x := .ref TI) rfl ?_)
  refine wpAny_bind (wpAny_seqItems hTI rfl ?_)
  show wpAny _ _ (Builtin.SmallTypes.ownedTupleIsFree (.ref z) >>= _) _ _ _
  rw [val_b]
  refine wpAny_bind ?_
  unfold Builtin.SmallTypes.ownedTupleIsFree
  refine wpAny_bind (wpAny_field hz rfl (x := .none) rfl (wpAny_pure ?_))
  simp only [if_true]
  refine wpAny_bind (wpAny_rule (wpAny_bind (wpAny_field hz rfl (x := .ref TO) rfl ?_)))
  refine wpAny_bind (wpAny_setField_rec hz (by simp) fun g0 hz0 hs0 => wpAny_bind ?_)
  replace hs0 : Heap.SameBut z hp g0 := hs0
  replace hz0 : ZipO g0 z TI TO .ellipsis b := hz0
  have hT0 : TupO g0 TO #[a1, a2, a3] := hs0.extBut _ _ S.zTO.symm hTO
  have t1_0 : St1 i g0 := D1.frame _ _ _ st1 fun c hc o e => hs0.extBut c o (fun q => S.z1 (q ▸ hc)) e
  have t2_0 : St2 i g0 := D2.frame _ _ _ st2 fun c hc o e => hs0.extBut c o (fun q => S.z2 (q ▸ hc)) e
  have t3_0 : St3 i g0 := D3.frame _ _ _ st3 fun c hc o e => hs0.extBut c o (fun q => S.z3 (q ▸ hc)) e
  have k0 : ∀ c o, c ≠ z → c ≠ TO → c ≠ i1 → c ≠ i2 → c ≠ i3 → hp.get? c = some o → g0.get? c = some o := fun c o q0 _ _ _ _ e => hs0.extBut c o q0 e
  simp only [List.zipIdx_cons, List.zipIdx_nil, List.forIn_cons, List.forIn_nil]
  refine wpAny_bind (wpAny_bind (wpAny_onRaise (m := zdraw b (.ref i1)) (zdraw_item (s := ⟨g0, g, d, tk0, os⟩) D1 hi1 t1_0 fun x1 d1 tk1 p1 n1 hd1 => ?_)))
  replace hd1 : Heap.SameBut i1 g0 d1 := hd1
  have hU1 : TupO d1 TO #[a1, a2, a3] := hd1.extBut _ _ (fun q => S.T1 (q ▸ S.m1)) hT0
  refine wpAny_bind (wpAny_seqItems (s := ⟨d1, g, d, tk1, os⟩) hU1 rfl ?_)
  refine wpAny_bind (upd_tup (s := ⟨d1, g, d, tk1, os⟩) hU1 (by simp) fun g1 hT1 hs1 => ?_)
  replace hs1 : Heap.SameBut TO d1 g1 := hs1
  replace hT1 : TupO g1 TO #[x1, a2, a3] := hT1
  have hz1 : ZipO g1 z TI TO .ellipsis b := hs1.extBut _ _ S.zTO (hd1.extBut _ _ (fun q => S.z1 (q ▸ S.m1)) hz0)
  have t1_1 : St1 (i + 1) g1 := D1.frame _ _ _ n1 fun c hc o e => hs1.extBut c o (fun q => S.T1 (q ▸ hc)) e
  have t2_1 : St2 i g1 := D2.frame _ _ _ t2_0 fun c hc o e => hs1.extBut c o (fun q => S.T2 (q ▸ hc)) (hd1.extBut c o (fun q => S.s1_2 (q ▸ hc)) e)
  have t3_1 : St3 i g1 := D3.frame _ _ _ t3_0 fun c hc o e => hs1.extBut c o (fun q => S.T3 (q ▸ hc)) (hd1.extBut c o (fun q => S.s1_3 (q ▸ hc)) e)
  have k1 : ∀ c o, c ≠ z → c ≠ TO → c ≠ i1 → c ≠ i2 → c ≠ i3 → hp.get? c = some o → g1.get? c = some o := fun c o qz qT q1 q2 q3 e => hs1.extBut c o qT (hd1.extBut c o q1 (k0 c o qz qT q1 q2 q3 e))
  have e1 : g1.objs.size = g0.objs.size := by rw [hs1.1, hd1.1]
  refine wpAny_bind (wpAny_letGo (wpAny_pure ?_))
  refine wpAny_bind (wpAny_bind (wpAny_onRaise (m := zdraw b (.ref i2)) (zdraw_item (s := ⟨g1, g, d, tk1, os⟩) D2 hi2 t2_1 fun x2 d2 tk2 p2 n2 hd2 => ?_)))
  replace hd2 : Heap.SameBut i2 g1 d2 := hd2
  have hU2 : TupO d2 TO #[x1, a2, a3] := hd2.extBut _ _ (fun q => S.T2 (q ▸ S.m2)) hT1
  refine wpAny_bind (wpAny_seqItems (s := ⟨d2, g, d, tk2, os⟩) hU2 rfl ?_)
  refine wpAny_bind (upd_tup (s := ⟨d2, g, d, tk2, os⟩) hU2 (by simp) fun g2 hT2 hs2 => ?_)
  replace hs2 : Heap.SameBut TO d2 g2 := hs2
  replace hT2 : TupO g2 TO #[x1, x2, a3] := hT2
  have hz2 : ZipO g2 z TI TO .ellipsis b := hs2.extBut _ _ S.zTO (hd2.extBut _ _ (fun q => S.z2 (q ▸ S.m2)) hz1)
  have t1_2 : St1 (i + 1) g2 := D1.frame _ _ _ t1_1 fun c hc o e => hs2.extBut c o (fun q => S.T1 (q ▸ hc)) (hd2.extBut c o (fun q => S.s2_1 (q ▸ hc)) e)
  have t2_2 : St2 (i + 1) g2 := D2.frame _ _ _ n2 fun c hc o e => hs2.extBut c o (fun q => S.T2 (q ▸ hc)) e
  have t3_2 : St3 i g2 := D3.frame _ _ _ t3_1 fun c hc o e => hs2.extBut c o (fun q => S.T3 (q ▸ hc)) (hd2.extBut c o (fun q => S.s2_3 (q ▸ hc)) e)
  have k2 : ∀ c o, c ≠ z → c ≠ TO → c ≠ i1 → c ≠ i2 → c ≠ i3 → hp.get? c = some o → g2.get? c = some o := fun c o qz qT q1 q2 q3 e => hs2.extBut c o qT (hd2.extBut c o q2 (k1 c o qz qT q1 q2 q3 e))
  have e2 : g2.objs.size = g1.objs.size := by rw [hs2.1, hd2.1]
  refine wpAny_bind (wpAny_letGo (wpAny_pure ?_))
  refine wpAny_bind (wpAny_bind (wpAny_onRaise (m := zdraw b (.ref i3)) (zdraw_item (s := ⟨g2, g, d, tk2, os⟩) D3 hi3 t3_2 fun x3 d3 tk3 p3 n3 hd3 => ?_)))
  replace hd3 : Heap.SameBut i3 g2 d3 := hd3
  have hU3 : TupO d3 TO #[x1, x2, a3] := hd3.extBut _ _ (fun q => S.T3 (q ▸ S.m3)) hT2
  refine wpAny_bind (wpAny_seqItems (s := ⟨d3, g, d, tk3, os⟩) hU3 rfl ?_)
  refine wpAny_bind (upd_tup (s := ⟨d3, g, d, tk3, os⟩) hU3 (by simp) fun g3 hT3 hs3 => ?_)
  replace hs3 : Heap.SameBut TO d3 g3 := hs3
  replace hT3 : TupO g3 TO #[x1, x2, x3] := hT3
  have hz3 : ZipO g3 z TI TO .ellipsis b := hs3.extBut _ _ S.zTO (hd3.extBut _ _ (fun q => S.z3 (q ▸ S.m3)) hz2)
  have t1_3 : St1 (i + 1) g3 := D1.frame _ _ _ t1_2 fun c hc o e => hs3.extBut c o (fun q => S.T1 (q ▸ hc)) (hd3.extBut c o (fun q => S.s3_1 (q ▸ hc)) e)
  have t2_3 : St2 (i + 1) g3 := D2.frame _ _ _ t2_2 fun c hc o e => hs3.extBut c o (fun q => S.T2 (q ▸ hc)) (hd3.extBut c o (fun q => S.s3_2 (q ▸ hc)) e)
  have t3_3 : St3 (i + 1) g3 := D3.frame _ _ _ n3 fun c hc o e => hs3.extBut c o (fun q => S.T3 (q ▸ hc)) e
  have k3 : ∀ c o, c ≠ z → c ≠ TO → c ≠ i1 → c ≠ i2 → c ≠ i3 → hp.get? c = some o → g3.get? c = some o := fun c o qz qT q1 q2 q3 e => hs3.extBut c o qT (hd3.extBut c o q3 (k2 c o qz qT q1 q2 q3 e))
  have e3 : g3.objs.size = g2.objs.size := by rw [hs3.1, hd3.1]
  refine wpAny_bind (wpAny_letGo (wpAny_pure ?_))
  refine wpAny_pure ?_
  refine wpAny_bind (wpAny_seqItems (s := ⟨g3, g, d, tk3, os⟩) hT3 rfl ?_)
  refine wpAny_bind (wpAny_newTuple ?_)
  have hsz : g3.objs.size = hp.objs.size := by rw [e3, e2, e1, hs0.1]
  have hlt : z < g3.objs.size := Heap.lt_size hz3
  refine wpAny_bind ?_
  unfold Builtin.SmallTypes.ownedTupleHandOut
  have hy : ZipO (g3.push { cls := .type "tuple", data := .seq #[x1, x2, x3] }) z TI TO .ellipsis b := Heap.get?_push_of_some _ hz3
  refine wpAny_bind (wpAny_setField_rec hy (by simp) fun u1 hu1 hv1 => wpAny_setField_rec hu1 (by simp) fun u2 hu2 hv2 => ?_)
  have up : ∀ c o, c ≠ z → g3.get? c = some o → u2.get? c = some o := fun c o q e => hv2.extBut c o q (hv1.extBut c o q (Heap.get?_push_of_some _ e))
  have hN : TupO u2 g3.objs.size #[x1, x2, x3] := hv2.extBut _ _ (Nat.ne_of_gt hlt) (hv1.extBut _ _ (Nat.ne_of_gt hlt) (Heap.get?_push_size _ rfl))
  have hZ : ZipO u2 z TI TO (rawInt g3.objs.size) b := hu2
  rw [hsz] at hN hZ
  refine wpAny_pure ⟨_, rfl, ?_⟩
  show Q (.ref g3.objs.size) ⟨u2, g, d, tk3, os⟩
  rw [hsz]
  exact hQ x1 x2 x3 u2 tk3 p1 p2 p3 hZ (up _ _ S.zTO.symm hT3) (D1.frame _ _ _ t1_3 fun c hc o e => up c o (fun q => S.z1 (q ▸ hc)) e) (D2.frame _ _ _ t2_3 fun c hc o e => up c o (fun q => S.z2 (q ▸ hc)) e) (D3.frame _ _ _ t3_3 fun c hc o e => up c o (fun q => S.z3 (q ▸ hc)) e) hN fun c o qz qT q1 q2 q3 e => up c o qz (k3 c o qz qT q1 q2 q3 e)
theorem next_end3 {z TI TO i1 i2 i3 : Addr} {fp1 fp2 fp3 : List Addr} {n : Nat} {P1 P2 P3 : Nat → Value → Prop} {St1 St2 St3 : Nat → Heap → Prop} {a1 a2 a3 : Value} {Q : Fin → Shared → Prop} (hh : A.handled = none) (S : Sep3 z TI TO i1 i2 i3 fp1 fp2 fp3) (D1 : Draws prog w A i1 fp1 n P1 St1) (D2 : Draws prog w A i2 fp2 n P2 St2) (D3 : Draws prog w A i3 fp3 n P3 St3)
    (hz : ZipO s.heap z TI TO .none b) (hTI : TupO s.heap TI #[.ref i1, .ref i2, .ref i3]) (hTO : TupO s.heap TO #[a1, a2, a3]) (st1 : St1 n s.heap) (st2 : St2 n s.heap) (st3 : St3 n s.heap)
    (hE : ∀ h' e, (∀ c o, c ≠ z → c ≠ TO → c ≠ i1 → c ≠ i2 → c ≠ i3 → s.heap.get? c = some o → h'.get? c = some o) → (∃ o, h'.get? e = some o ∧ o.cls = .type "StopIteration") → E (.ref e) { s with heap := h' }) :
    wpAny (model prog w) A (Builtin.«zip.__next__» ⟨[.ref z], []⟩) Q E s := by
  obtain ⟨hp, g, d, tk0, os⟩ := s
  refine wpAny_bind (m := field (.ref z) 2) (wpAny_field hz rfl (x := .bool b) rfl ?_)
  refine wpAny_bind (m := field (.ref z) 3) (wpAny_field hz rfl (x := .ref TI) rfl ?_)
  refine wpAny_bind (wpAny_seqItems hTI rfl ?_)
  show wpAny _ _ (Builtin.SmallTypes.ownedTupleIsFree (.ref z) >>= _) _ _ _
  rw [val_b]
  refine wpAny_bind ?_
  unfold Builtin.SmallTypes.ownedTupleIsFree
  refine wpAny_bind (wpAny_field hz rfl (x := .none) rfl (wpAny_pure ?_))
  simp only [if_true]
  refine wpAny_bind (wpAny_rule (wpAny_bind (wpAny_field hz rfl (x := .ref TO) rfl ?_)))
  refine wpAny_bind (wpAny_setField_rec hz (by simp) fun g0 hz0 hs0 => wpAny_bind ?_)
  replace hs0 : Heap.SameBut z hp g0 := hs0
  replace hz0 : ZipO g0 z TI TO .ellipsis b := hz0
  have t1_0 : St1 n g0 := D1.frame _ _ _ st1 fun c hc o e => hs0.extBut c o (fun q => S.z1 (q ▸ hc)) e
  have t2_0 : St2 n g0 := D2.frame _ _ _ st2 fun c hc o e => hs0.extBut c o (fun q => S.z2 (q ▸ hc)) e
  have t3_0 : St3 n g0 := D3.frame _ _ _ st3 fun c hc o e => hs0.extBut c o (fun q => S.z3 (q ▸ hc)) e
  simp only [List.zipIdx_cons, List.zipIdx_nil, List.forIn_cons, List.forIn_nil]
  refine wpAny_bind (wpAny_bind (wpAny_onRaise ?_))
  cases b with
  | false =>
    refine wpAny_bind (m := Builtin.SmallTypes.nextOf (.ref i1)) (D1.done ⟨g0, g, d, tk0, os⟩ _ _ t1_0 fun y e hy he => ?_)
    replace hy : Heap.ExtBut i1 g0 y := hy
    obtain ⟨oe, hoe, hce⟩ := he
    replace hoe : y.get? e = some oe := hoe
    have hzy : ZipO y z TI TO .ellipsis false := hy _ _ (fun q => S.z1 (q ▸ S.m1)) hz0
    have hez : e ≠ z := fun x => by subst x; rw [hzy] at hoe; cases hoe; simp at hce
    refine wpAny_setField_rec (s := ⟨y, g, d, tk0, os⟩) hzy (by simp) fun y2 _ hv => ?_
    replace hv : Heap.SameBut z y y2 := hv
    exact hE y2 e (fun c o qz qT q1 q2 q3 x => hv.extBut c o qz (hy c o q1 (hs0.extBut c o qz x))) ⟨oe, hv.extBut _ _ hez hoe, hce⟩
  | true =>
    refine zend_strict (s := ⟨g0, g, d, tk0, os⟩) D1 t1_0 fun y hy => ?_
    replace hy : Heap.ExtBut i1 g0 y := hy
    have hzy : ZipO y z TI TO .ellipsis true := hy _ _ (fun q => S.z1 (q ▸ S.m1)) hz0
    have t2_1 : St2 n y := D2.frame _ _ _ t2_0 fun c hc o e => hy c o (fun q => S.s1_2 (q ▸ hc)) e
    have t3_1 : St3 n y := D3.frame _ _ _ t3_0 fun c hc o e => hy c o (fun q => S.s1_3 (q ▸ hc)) e
    refine wpAny_bind (wpAny_setField_rec (s := ⟨y, g, d, tk0, os⟩) hzy (by simp) fun y1 _ hv1 => ?_)
    replace hv1 : Heap.SameBut z y y1 := hv1
    have r2_1 : St2 n y1 := D2.frame _ _ _ t2_1 fun c hc o e => hv1.extBut c o (fun q => S.z2 (q ▸ hc)) e
    have r3_1 : St3 n y1 := D3.frame _ _ _ t3_1 fun c hc o e => hv1.extBut c o (fun q => S.z3 (q ▸ hc)) e
    have k1 : ∀ c o, c ≠ z → c ≠ TO → c ≠ i1 → c ≠ i2 → c ≠ i3 → hp.get? c = some o → y1.get? c = some o := fun c o qz qT q1 q2 q3 e => hv1.extBut c o qz (hy c o q1 (hs0.extBut c o qz e))
    refine wpAny_bind ?_
    refine wpAny_bind ?_
    simp only [List.drop_succ_cons, List.drop_zero, List.zipIdx_cons, List.zipIdx_nil, List.forIn_cons, List.forIn_nil]
    refine wpAny_bind (wpAny_bind (zend_strict (s := ⟨y1, g, d, tk0, os⟩) D2 r2_1 fun y2 hy2 => ?_))
    replace hy2 : Heap.ExtBut i2 y1 y2 := hy2
    have k2 : ∀ c o, c ≠ z → c ≠ TO → c ≠ i1 → c ≠ i2 → c ≠ i3 → hp.get? c = some o → y2.get? c = some o := fun c o qz qT q1 q2 q3 e => hy2 c o q2 (k1 c o qz qT q1 q2 q3 e)
    have r3_2 : St3 n y2 := D3.frame _ _ _ r3_1 fun c hc o e => hy2 c o (fun q => S.s2_3 (q ▸ hc)) e
    refine wpAny_pure ?_
    refine wpAny_bind (wpAny_bind (zend_strict (s := ⟨y2, g, d, tk0, os⟩) D3 r3_2 fun y3 hy3 => ?_))
    replace hy3 : Heap.ExtBut i3 y2 y3 := hy3
    have k3 : ∀ c o, c ≠ z → c ≠ TO → c ≠ i1 → c ≠ i2 → c ≠ i3 → hp.get? c = some o → y3.get? c = some o := fun c o qz qT q1 q2 q3 e => hy3 c o q3 (k2 c o qz qT q1 q2 q3 e)
    refine wpAny_pure ?_
    refine wpAny_pure ?_
    exact wpAny_bind (wpAny_rule (stop_it (s := ⟨y3, g, d, tk0, os⟩) hh fun h2 e kk he => hE h2 e (fun c o qz qT q1 q2 q3 x => kk c o (k3 c o qz qT q1 q2 q3 x)) he))
theorem py_item3 {z TI TO i1 i2 i3 : Addr} {fp1 fp2 fp3 : List Addr} {n1 n2 n3 i : Nat} {P1 P2 P3 : Nat → Value → Prop} {St1 St2 St3 : Nat → Heap → Prop} {a1 a2 a3 : Value} {Q : Option Value → Shared → Prop} (S : Sep3 z TI TO i1 i2 i3 fp1 fp2 fp3) (D1 : Draws prog w A.in1 i1 fp1 n1 P1 St1) (D2 : Draws prog w A.in1 i2 fp2 n2 P2 St2) (D3 : Draws prog w A.in1 i3 fp3 n3 P3 St3)
    (hz : ZipO s.heap z TI TO .none b) (hTI : TupO s.heap TI #[.ref i1, .ref i2, .ref i3]) (hTO : TupO s.heap TO #[a1, a2, a3]) (st1 : St1 i s.heap) (st2 : St2 i s.heap) (st3 : St3 i s.heap) (hi1 : i < n1) (hi2 : i < n2) (hi3 : i < n3)
    (hQ : ∀ x1 x2 x3 h' tk, P1 i x1 → P2 i x2 → P3 i x3 → ZipO h' z TI TO (rawInt s.heap.objs.size) b → TupO h' TO #[x1, x2, x3] → St1 (i + 1) h' → St2 (i + 1) h' → St3 (i + 1) h' → TupO h' s.heap.objs.size #[x1, x2, x3] →
      (∀ c o, c ≠ z → c ≠ TO → c ≠ i1 → c ≠ i2 → c ≠ i3 → s.heap.get? c = some o → h'.get? c = some o) → Q (some (.ref s.heap.objs.size)) { s with heap := h', toks := tk }) : wpAny (model prog w) A (pyNext (.ref z)) Q E s := by
  have hT : s.TypeIs (.ref z) "zip" := ⟨_, hz, rfl⟩
  unfold pyNext
  refine wpAny_bind (wpAny_attempt (wpAny_callSpecial?_slot (name := Str.ofString "__next__") hT F.slot_zip_next (wpAny_call_entry F.slot_zip_next hT F.entry_zip_next ?_ (F.args_zip_next_1 _))))
  exact next_item3 S D1 D2 D3 hz hTI hTO st1 st2 st3 hi1 hi2 hi3 fun x1 x2 x3 h2 tk p1 p2 p3 q1 q2 u1 u2 u3 q3 q4 => wpAny_pure (hQ x1 x2 x3 h2 tk p1 p2 p3 q1 q2 u1 u2 u3 q3 q4)
theorem py_end3 {z TI TO i1 i2 i3 : Addr} {fp1 fp2 fp3 : List Addr} {n : Nat} {P1 P2 P3 : Nat → Value → Prop} {St1 St2 St3 : Nat → Heap → Prop} {a1 a2 a3 : Value} {Q : Option Value → Shared → Prop} (hh : A.handled = none) (S : Sep3 z TI TO i1 i2 i3 fp1 fp2 fp3) (D1 : Draws prog w A.in1 i1 fp1 n P1 St1) (D2 : Draws prog w A.in1 i2 fp2 n P2 St2) (D3 : Draws prog w A.in1 i3 fp3 n P3 St3)
    (hz : ZipO s.heap z TI TO .none b) (hTI : TupO s.heap TI #[.ref i1, .ref i2, .ref i3]) (hTO : TupO s.heap TO #[a1, a2, a3]) (st1 : St1 n s.heap) (st2 : St2 n s.heap) (st3 : St3 n s.heap)
    (hQ : ∀ h', (∀ c o, c ≠ z → c ≠ TO → c ≠ i1 → c ≠ i2 → c ≠ i3 → s.heap.get? c = some o → h'.get? c = some o) → Q none { s with heap := h' }) : wpAny (model prog w) A (pyNext (.ref z)) Q E s := by
  have hT : s.TypeIs (.ref z) "zip" := ⟨_, hz, rfl⟩
  unfold pyNext
  refine wpAny_bind (wpAny_attempt (wpAny_callSpecial?_slot (name := Str.ofString "__next__") hT F.slot_zip_next (wpAny_call_entry F.slot_zip_next hT F.entry_zip_next ?_ (F.args_zip_next_1 _))))
  refine next_end3 (A := A.in1) hh S D1 D2 D3 hz hTI hTO st1 st2 st3 fun h2 e kk he => ?_
  obtain ⟨o, ho, hc⟩ := he
  exact wpAny_bind (wpAny_isInstance (T := "StopIteration") (b := true) ⟨o, ho, hc⟩ isSubtype_stop (wpAny_pure (hQ _ kk)))
theorem typeCall_strict3 (v1 v2 v3 x : Value) : checkTypeCall "zip" ⟨[v1, v2, v3], [(Str.ofString "strict", x)]⟩ = pure () := by kernel_rfl
theorem newCall_strict3 (v1 v2 v3 x : Value) : checkBuiltinCall "zip.__new__" ⟨[.type "zip", v1, v2, v3], [(Str.ofString "strict", x)]⟩ = pure () := by kernel_rfl
theorem initArgs_strict3 (obj v1 v2 v3 x : Value) : argsOk "object.__init__" ⟨[obj, v1, v2, v3], [(Str.ofString "strict", x)]⟩ := by unfold argsOk; kernel_rfl
abbrev sT3 (h : Heap) (o1 o2 o3 : Obj) : Heap := ((((h.push o1).push o2).push o3).push { cls := .type "tuple", data := .seq #[.ref h.objs.size, .ref (h.push o1).objs.size, .ref ((h.push o1).push o2).objs.size] })
abbrev sO3 (h : Heap) (o1 o2 o3 : Obj) : Heap := (sT3 h o1 o2 o3).push { cls := .type "tuple", data := .seq #[.none, .none, .none] }
abbrev sZ3 (h : Heap) (o1 o2 o3 : Obj) : Heap := (sO3 h o1 o2 o3).push { cls := .type "zip", data := .fields #[.none, .bool false, .bool true, .ref (((h.push o1).push o2).push o3).objs.size, .ref (sT3 h o1 o2 o3).objs.size] }
theorem meets_strict3 {v1 v2 v3 : Value} {o1 o2 o3 : Obj} {G1 G2 G3 : Heap → Prop} (B1 : Begins v1 o1 G1) (B2 : Begins v2 o2 G2) (B3 : Begins v3 o3 G3) :
    Meets (Builtin.«zip.__new__» ⟨[.type "zip", v1, v2, v3], [(Str.ofString "strict", .bool true)]⟩) (fun _ R s => (G1 s.heap ∧ G2 s.heap ∧ G3 s.heap) ∧ R (.ok (.ret (.ref (sO3 s.heap o1 o2 o3).objs.size))) { s with heap := (sZ3 s.heap o1 o2 o3) }) :=
  .of_wp fun prog w A R s h => by
    obtain ⟨hp, g, d, tk, os⟩ := s
    obtain ⟨⟨h1, h2, h3⟩, h⟩ := h
    have hsub := sub_zip
    have e1 : (Str.ofString "strict" != ("strict" : Str)) = false := by decide +kernel
    have w1 : ∀ {A' : Around} {E : Value → Shared → Prop} {Q : Value → Shared → Prop}, Q (.ref hp.objs.size) ⟨(hp.push o1), g, d, tk, os⟩ → wpAny (model prog w) A' (pyIter v1) Q E ⟨hp, g, d, tk, os⟩ := fun q => B1.iter prog w _ _ ⟨hp, g, d, tk, os⟩ _ (B1.keeps _ _ h1 fun c u e => e) q
    have w2 : ∀ {A' : Around} {E : Value → Shared → Prop} {Q : Value → Shared → Prop}, Q (.ref (hp.push o1).objs.size) ⟨((hp.push o1).push o2), g, d, tk, os⟩ → wpAny (model prog w) A' (pyIter v2) Q E ⟨(hp.push o1), g, d, tk, os⟩ := fun q => B2.iter prog w _ _ ⟨(hp.push o1), g, d, tk, os⟩ _ (B2.keeps _ _ h2 fun c u e => (Heap.get?_push_of_some _ e)) q
    have w3 : ∀ {A' : Around} {E : Value → Shared → Prop} {Q : Value → Shared → Prop}, Q (.ref ((hp.push o1).push o2).objs.size) ⟨(((hp.push o1).push o2).push o3), g, d, tk, os⟩ → wpAny (model prog w) A' (pyIter v3) Q E ⟨((hp.push o1).push o2), g, d, tk, os⟩ := fun q => B3.iter prog w _ _ ⟨((hp.push o1).push o2), g, d, tk, os⟩ _ (B3.keeps _ _ h3 fun c u e => (Heap.get?_push_of_some _ (Heap.get?_push_of_some _ e))) q
    wp_walk using w1, w2, w3
    exact ⟨_, rfl, h⟩
/-- zip(.., strict=True) of 3: its new cells -/
theorem begins_strict3 {v1 v2 v3 : Value} {o1 o2 o3 : Obj} {G1 G2 G3 : Heap → Prop} {Q : Value → Shared → Prop} (B1 : Begins v1 o1 G1) (B2 : Begins v2 o2 G2) (B3 : Begins v3 o3 G3) (h1 : G1 s.heap) (h2 : G2 s.heap) (h3 : G3 s.heap)
    (h : ∀ h', ZipO h' (s.heap.objs.size + 5) (s.heap.objs.size + 3) (s.heap.objs.size + 4) .none true → TupO h' (s.heap.objs.size + 3) #[.ref s.heap.objs.size, .ref (s.heap.objs.size + 1), .ref (s.heap.objs.size + 2)] → TupO h' (s.heap.objs.size + 4) #[.none, .none, .none] → h'.get? s.heap.objs.size = some o1 → h'.get? (s.heap.objs.size + 1) = some o2 → h'.get? (s.heap.objs.size + 2) = some o3 → (∀ c o, s.heap.get? c = some o → h'.get? c = some o) → Q (.ref (s.heap.objs.size + 5)) { s with heap := h' }) :
    wpAny (model prog w) A (call (.type "zip") [v1, v2, v3] [(Str.ofString "strict", .bool true)]) Q E s := by
  refine callType_newKw F.called_zip (by decide) (typeCall_strict3 _ _ _ _) (newCall_strict3 _ _ _ _) (fun obj => initArgs_strict3 obj _ _ _ _) F.entry_zip_new (meets_strict3 B1 B2 B3) ⟨⟨h1, h2, h3⟩, ?_⟩
  have z1 : (s.heap.push o1).objs.size = s.heap.objs.size + 1 := by rw [Heap.size_push]
  have z2 : ((s.heap.push o1).push o2).objs.size = s.heap.objs.size + 2 := by rw [Heap.size_push, z1]
  have z3 : (((s.heap.push o1).push o2).push o3).objs.size = s.heap.objs.size + 3 := by rw [Heap.size_push, z2]
  have z4 : (sT3 s.heap o1 o2 o3).objs.size = s.heap.objs.size + 4 := by rw [Heap.size_push, z3]
  have z5 : (sO3 s.heap o1 o2 o3).objs.size = s.heap.objs.size + 5 := by rw [Heap.size_push, z4]
  have z6 : (sZ3 s.heap o1 o2 o3).objs.size = s.heap.objs.size + 6 := by rw [Heap.size_push, z5]
  have q0 : (sZ3 s.heap o1 o2 o3).get? s.heap.objs.size = some o1 := (Heap.get?_push_of_some _ (Heap.get?_push_of_some _ (Heap.get?_push_of_some _ (Heap.get?_push_of_some _ (Heap.get?_push_of_some _ (Heap.get?_push_size _ B1.free))))))
  have q1 : (sZ3 s.heap o1 o2 o3).get? (s.heap.push o1).objs.size = some o2 := (Heap.get?_push_of_some _ (Heap.get?_push_of_some _ (Heap.get?_push_of_some _ (Heap.get?_push_of_some _ (Heap.get?_push_size _ B2.free)))))
  rw [z1] at q1
  have q2 : (sZ3 s.heap o1 o2 o3).get? ((s.heap.push o1).push o2).objs.size = some o3 := (Heap.get?_push_of_some _ (Heap.get?_push_of_some _ (Heap.get?_push_of_some _ (Heap.get?_push_size _ B3.free))))
  rw [z2] at q2
  have q3 : (sZ3 s.heap o1 o2 o3).get? (((s.heap.push o1).push o2).push o3).objs.size = some ({ cls := .type "tuple", data := .seq #[.ref s.heap.objs.size, .ref (s.heap.push o1).objs.size, .ref ((s.heap.push o1).push o2).objs.size] } : Obj) := (Heap.get?_push_of_some _ (Heap.get?_push_of_some _ (Heap.get?_push_size _ rfl)))
  rw [z3] at q3
  have q4 : (sZ3 s.heap o1 o2 o3).get? (sT3 s.heap o1 o2 o3).objs.size = some ({ cls := .type "tuple", data := .seq #[.none, .none, .none] } : Obj) := (Heap.get?_push_of_some _ (Heap.get?_push_size _ rfl))
  rw [z4] at q4
  have q5 : (sZ3 s.heap o1 o2 o3).get? (sO3 s.heap o1 o2 o3).objs.size = some ({ cls := .type "zip", data := .fields #[.none, .bool false, .bool true, .ref (((s.heap.push o1).push o2).push o3).objs.size, .ref (sT3 s.heap o1 o2 o3).objs.size] } : Obj) := (Heap.get?_push_size _ rfl)
  rw [z5] at q5
  rw [z2, z1] at q3
  rw [z4, z3] at q5
  show _ ∧ _
  rw [z5]
  exact ⟨⟨_, q5, rfl⟩, h _ q5 q3 q4 q0 q1 q2 fun c o e => (Heap.get?_push_of_some _ (Heap.get?_push_of_some _ (Heap.get?_push_of_some _ (Heap.get?_push_of_some _ (Heap.get?_push_of_some _ (Heap.get?_push_of_some _ e))))))⟩
end
end CZ

namespace CZ
open PySem PySem.Spec PyProof.Rows L2
/-- a list (false) or a tuple (true) that is read -/
def SqK (K : PySem.W.Frag) (H : Hp) (p : Bool × Addr) (xs : List V) : Prop := if p.1 = true then SqT K H p.2 xs else SqL K H p.2 xs
def SqIt (h : Heap) (it : Addr) (p : Bool × Addr) (i : Nat) : Prop := if p.1 = true then h.IsTupleIter it p.2 i else h.IsListIter it p.2 i
def SeqIs (h : Heap) (p : Bool × Addr) (its : List Value) : Prop := if p.1 = true then h.IsTuple p.2 its.toArray else h.IsList p.2 its.toArray
/-- the iterator's object as it begins -/
def itO (p : Bool × Addr) : Obj := if p.1 = true then { cls := .type "tuple_iterator", data := .fields #[.ref p.2, .int 0 0] } else { cls := .type "list_iterator", data := .fields #[.ref p.2, .int 0 0] }
theorem SqIt.at {h h' : Heap} {it : Addr} {p : Bool × Addr} {i : Nat} (x : SqIt h it p i) (k : ∀ o, h.get? it = some o → h'.get? it = some o) : SqIt h' it p i := by
  obtain ⟨b, a⟩ := p
  cases b
  · exact Heap.IsListIter.at (show h.IsListIter it a i from x) k
  · exact Heap.IsTupleIter.at (show h.IsTupleIter it a i from x) k
theorem SqIt.obj {h : Heap} {it : Addr} {p : Bool × Addr} {i : Nat} (x : SqIt h it p i) : ∃ o, h.get? it = some o ∧ ∀ v, o.data ≠ .cell v := by
  obtain ⟨b, a⟩ := p
  cases b
  · obtain ⟨o, e, _, d⟩ := (show h.IsListIter it a i from x)
    exact ⟨o, e, fun v q => by rw [d] at q; cases q⟩
  · obtain ⟨o, e, _, d⟩ := (show h.IsTupleIter it a i from x)
    exact ⟨o, e, fun v q => by rw [d] at q; cases q⟩
theorem SqIt.begin {h : Heap} {it : Addr} {p : Bool × Addr} (e : h.get? it = some (itO p)) : SqIt h it p 0 := by
  obtain ⟨b, a⟩ := p
  cases b
  · exact ⟨_, e, rfl, rfl⟩
  · exact ⟨_, e, rfl, rfl⟩
theorem begins_of (p : Bool × Addr) (its : List Value) : Begins (.ref p.2) (itO p) (fun h => SeqIs h p its) := by
  obtain ⟨b, a⟩ := p
  cases b
  · exact begins_list a its.toArray
  · exact begins_tuple a its.toArray
theorem draws_of {prog : Program} {w : World} {A : Around} (hh : A.handled = none) (it : Addr) (p : Bool × Addr) (ne : p.2 ≠ it) (its : List Value) :
    Draws prog w A it [it, p.2] its.toArray.size (fun i v => its.toArray[i]? = some v) (fun i h => SqIt h it p i ∧ SeqIs h p its) := by
  obtain ⟨b, a⟩ := p
  cases b
  · exact Draws.list hh it a ne its.toArray
  · exact Draws.tuple hh it a ne its.toArray
section
variable {X : Cx} {pins : List (Addr × Obj)} {σ : L2.St} {H : Hp} {s : Shared} {p : Bool × Addr} {xs ys : List V}
theorem sq_seq (I : Inv X pins σ H s) (h : SqK X.K H p xs) : ∃ its : List Value, Vals xs its ∧ SeqIs s.heap p its ∧ p.2 < s.heap.objs.size := by
  obtain ⟨b, a⟩ := p
  cases b
  · obtain ⟨its, rv, q, _⟩ := I.list (show SqL X.K H a xs from h)
    exact ⟨its, rv, q.isList, q.lt⟩
  · obtain ⟨its, rv, q, _⟩ := I.tuple (show SqT X.K H a xs from h)
    obtain ⟨o, ho, _⟩ := id q
    exact ⟨its, rv, q, Heap.lt_size ho⟩
theorem sq_inj (I : Inv X pins σ H s) (h : SqK X.K H p xs) (h2 : SqK X.K H p ys) : xs = ys := by
  obtain ⟨b, a⟩ := p
  cases b
  · exact I.list_inj (show SqL X.K H a xs from h) h2
  · exact I.tuple_inj (show SqT X.K H a xs from h) h2
end
/-- what a zip of lists and tuples of one length gives -/
def ItZ (K : PySem.W.Frag) (l : List (Bool × Addr)) : It :=
  ⟨fun i H => ∃ vs : List V, Paired (fun p v => ∃ xs, SqK K H p xs ∧ xs[i]? = some v) l vs,
    fun i H v H2 => ∃ (T : Addr) (vs : List V), v = .ref T ∧ H T = none ∧ H2 = upd H T (.tup vs) ∧ Paired (fun p v => ∀ xs, SqK K H p xs → xs[i]? = some v) l vs,
    fun i H => ∀ p ∈ l, ∃ xs, SqK K H p xs ∧ xs.length = i⟩
def YRow (xss : List (List V)) : Nat → Hp → V → Hp → Prop := fun i H v H2 => ∃ (T : Addr) (vs : List V), v = .ref T ∧ H T = none ∧ H2 = upd H T (.tup vs) ∧ Paired (fun (xs : List V) v => xs[i]? = some v) xss vs
theorem pair_go {K : PySem.W.Frag} {H : Hp} {i : Nat} : ∀ {l : List (Bool × Addr)} {xss : List (List V)}, Paired (fun p xs => SqK K H p xs) l xss → (∀ xs ∈ xss, i < xs.length) → ∃ vs, Paired (fun p v => ∃ xs, SqK K H p xs ∧ xs[i]? = some v) l vs
  | _, _, .nil, _ => ⟨[], .nil⟩
  | _, _, .cons (b := xs) r t, h => by
    obtain ⟨vs, q⟩ := pair_go t fun ys hy => h ys (List.mem_cons_of_mem _ hy)
    have hi := h xs List.mem_cons_self
    exact ⟨xs[i] :: vs, .cons ⟨xs, r, List.getElem?_eq_getElem hi⟩ q⟩
theorem pair_row {K : PySem.W.Frag} {H : Hp} {i : Nat} : ∀ {l : List (Bool × Addr)} {xss : List (List V)} {vs : List V}, Paired (fun p xs => SqK K H p xs) l xss → Paired (fun p v => ∀ xs, SqK K H p xs → xs[i]? = some v) l vs → Paired (fun (xs : List V) v => xs[i]? = some v) xss vs
  | _, _, _, .nil, .nil => .nil
  | _, _, _, .cons r t, .cons q u => .cons (q _ r) (pair_row t u)
theorem pair_stop {K : PySem.W.Frag} {H : Hp} {n : Nat} : ∀ {l : List (Bool × Addr)} {xss : List (List V)}, Paired (fun p xs => SqK K H p xs) l xss → (∀ xs ∈ xss, xs.length = n) → ∀ p ∈ l, ∃ xs, SqK K H p xs ∧ xs.length = n
  | _, _, .nil, _, _, hp => nomatch hp
  | _, _, .cons r t, h, p, hp => by
    rcases List.mem_cons.mp hp with e | hp
    · rw [e]
      exact ⟨_, r, h _ List.mem_cons_self⟩
    · exact pair_stop t (fun ys hy => h ys (List.mem_cons_of_mem _ hy)) p hp
theorem walk_rows {K : PySem.W.Frag} {l : List (Bool × Addr)} {xss : List (List V)} {n : Nat} (hn : ∀ xs ∈ xss, xs.length = n) : Walk (ItZ K l) n (fun H => Paired (fun p xs => SqK K H p xs) l xss) (YRow xss) :=
  ⟨fun i H hi q => pair_go q fun xs hx => by rw [hn xs hx]; exact hi, fun H q => pair_stop q hn, fun i H x H2 _ q y => by
    obtain ⟨T, vs, h1, h2, h3, h4⟩ := y
    exact ⟨T, vs, h1, h2, h3, pair_row q h4⟩⟩
/-- the reading of zip(..): which are tuples is told by the flags -/
def iZ (K : PySem.W.Frag) (fl : List Bool) (ta : TA) : TI := fun σ H R => ta σ H fun vs H1 => ∃ l : List Addr, vs = l.map V.ref ∧ l.length = fl.length ∧ (∀ p ∈ fl.zip l, ∃ xs, SqK K H1 p xs) ∧ R (ItZ K (fl.zip l)) H1
theorem nin_new {M a : Nat} (j k : Nat) (h : a < M) (hjk : j ≠ k) : M + j ∉ [M + k, a] := by
  simp only [List.mem_cons, List.mem_nil_iff, or_false, not_or]
  omega
theorem looks_ty {M : Model} {h : Heap} (T : String) (_ : True) : ∃ k, (k = Keeper.frame ∨ k = Keeper.machine ∨ k = Keeper.boundFrame) ∧ PySem.W.Looks M h (keeperOf (.type T)) k := ⟨_, .inr (.inl rfl), PySem.W.Looks.of_pure rfl⟩
end CZ

namespace CZ
open PySem PySem.Spec PyProof.Rows L2
theorem turn_z2 {P : Program} {w : World} {K : PySem.W.Frag} {elts : List Expr} {kk : Nat} {tpos : Pos} {z TI TO i1 i2 : Addr} {p1 p2 : Bool × Addr} {b : Bool} (S : Sep2 z TI TO i1 i2 [i1, p1.2] [i2, p2.2]) (ne1 : p1.2 ≠ i1) (ne2 : p2.2 ≠ i2) :
    Turn P w K (.Tuple elts kk tpos) (ItZ K [p1, p2]) [z, TI, TO, i1, i2] z (fun i h => ZipO h z TI TO .none b ∧ TupO h TI #[.ref i1, .ref i2] ∧ (∃ a1 a2, TupO h TO #[a1, a2]) ∧ SqIt h i1 p1 i ∧ SqIt h i2 p2 i) where
  mem := by simp
  obj := fun i h st c hc => by
    obtain ⟨hz, hTI, ⟨a1, a2, hTO⟩, h1, h2⟩ := st
    have e : c = z ∨ c = TI ∨ c = TO ∨ c = i1 ∨ c = i2 := by simpa using hc
    rcases e with q | q | q | q | q
    · rw [q]; exact ⟨_, hz, fun v q => nomatch q⟩
    · rw [q]; exact ⟨_, hTI, fun v q => nomatch q⟩
    · rw [q]; exact ⟨_, hTO, fun v q => nomatch q⟩
    · rw [q]; exact h1.obj
    · rw [q]; exact h2.obj
  keep := fun i h h2 st k => by
    obtain ⟨hz, hTI, ⟨a1, a2, hTO⟩, h1, h2⟩ := st
    exact ⟨k z (by simp) _ hz, k TI (by simp) _ hTI, ⟨a1, a2, k TO (by simp) _ hTO⟩, h1.at fun o q => k i1 (by simp) o q, h2.at fun o q => k i2 (by simp) o q⟩
  item := by
    intro X hP hw hK hc i pins s σ H E I hf st hg
    subst hP hw hK
    obtain ⟨hz, hTI, ⟨a1, a2, hTO⟩, h1, h2⟩ := st
    obtain ⟨vs, hv⟩ := hg
    cases hv with
    | cons r1 hv1 =>
      rename_i v1 ws1
      obtain ⟨xs1, hq1, hx1⟩ := r1
      obtain ⟨its1, rv1, q1, _⟩ := sq_seq I hq1
      obtain ⟨u1, hu1, ru1⟩ := rv1.get hx1
      have g1 : its1.toArray[i]? = some u1 := by simpa using hu1
      have l1 : i < its1.toArray.size := by have := (List.getElem?_eq_some_iff.mp hu1).1; simpa using this
      cases hv1 with
      | cons r2 hv2 =>
        rename_i v2 ws2
        obtain ⟨xs2, hq2, hx2⟩ := r2
        obtain ⟨its2, rv2, q2, _⟩ := sq_seq I hq2
        obtain ⟨u2, hu2, ru2⟩ := rv2.get hx2
        have g2 : its2.toArray[i]? = some u2 := by simpa using hu2
        have l2 : i < its2.toArray.size := by have := (List.getElem?_eq_some_iff.mp hu2).1; simpa using this
        cases hv2
        have hzl : z < s.heap.objs.size := Heap.lt_size hz
        refine py_item2 S (draws_of (A := X.A.in1) (I.ok.hd hc) i1 p1 ne1 its1) (draws_of (A := X.A.in1) (I.ok.hd hc) i2 p2 ne2 its2) hz hTI hTO ⟨h1, q1⟩ ⟨h2, q2⟩ l1 l2 fun x1 x2 hA tk y1 y2 z2 TO2 n1 n2 hT hk => ?_
        obtain rfl : u1 = x1 := Option.some.inj (g1.symm.trans y1)
        obtain rfl : u2 = x2 := Option.some.inj (g2.symm.trans y2)
        refine ⟨_, rfl, go_zip (s := { s with heap := hA, toks := tk }) z2 fun hB z3 sb => ?_⟩
        replace sb : Heap.SameBut z hA hB := sb
        have hT2 : hB.get? s.heap.objs.size = some { cls := .type "tuple", data := .seq #[u1, u2] } := (sb.2 _ (Nat.ne_of_gt hzl)).trans hT
        have new : ObjOk X.prog X.w (upd H s.heap.objs.size (.tup [v1, v2])) hB s.heap.objs.size (.tup [v1, v2]) := ⟨by show 2 ≤ sizeLine; decide, [u1, u2], (.cons ru1 (.cons ru2 .nil)), ⟨_, hT2, rfl, _, rfl⟩⟩
        have I1 : Inv X pins σ (upd H s.heap.objs.size (.tup [v1, v2])) { s with heap := hB, toks := tk } := I.turnedNew (t' := tk) (ch := [z, TI, TO, i1, i2]) (fun c o hb q => (sb.2 c (fun q => hb (by simp [q]))).trans (hk c o (fun q => hb (by simp [q])) (fun q => hb (by simp [q])) (fun q => hb (by simp [q])) (fun q => hb (by simp [q])) q)) hf (Nat.le_refl _) new
        refine ⟨.ref s.heap.objs.size, _, I1, rfl, ⟨_, _, rfl, I.hok.fresh (Nat.le_refl _), rfl, (.cons (fun l hl => by rw [sq_inj I hl hq1]; exact hx1) (.cons (fun l hl => by rw [sq_inj I hl hq2]; exact hx2) .nil))⟩, ⟨z3, (sb.2 _ S.zTI.symm).trans (hk _ _ S.zTI.symm S.TOTI.symm S.I1 S.I2 hTI), ⟨u1, u2, (sb.2 _ S.zTO.symm).trans TO2⟩, (n1.1.at fun o q => (sb.2 _ (fun q => S.z1 (by rw [← q]; exact S.m1))).trans q), (n2.1.at fun o q => (sb.2 _ (fun q => S.z2 (by rw [← q]; exact S.m2))).trans q)⟩, fun c hcm => ?_⟩
        have hlt : c < s.heap.objs.size := by
          have e : c = z ∨ c = TI ∨ c = TO ∨ c = i1 ∨ c = i2 := by simpa using hcm
          rcases e with q | q | q | q | q
          · rw [q]; exact hzl
          · rw [q]; exact Heap.lt_size hTI
          · rw [q]; exact Heap.lt_size hTO
          · rw [q]; obtain ⟨_, e1, _⟩ := h1.obj; exact Heap.lt_size e1
          · rw [q]; obtain ⟨_, e1, _⟩ := h2.obj; exact Heap.lt_size e1
        rw [upd_ne (Nat.ne_of_lt hlt)]
        exact (hf c hcm).1
  done := by
    intro X hP hw hK hc i pins s σ H E I hf st hg
    subst hP hw hK
    obtain ⟨hz, hTI, ⟨a1, a2, hTO⟩, h1, h2⟩ := st
    obtain ⟨xs1, hq1, hx1⟩ := hg p1 (by simp)
    obtain ⟨its1, rv1, q1, _⟩ := sq_seq I hq1
    have l1 : its1.toArray.size = i := by have := rv1.length; simp; omega
    have D1 := draws_of (prog := X.prog) (w := X.w) (A := X.A.in1) (I.ok.hd hc) i1 p1 ne1 its1
    rw [l1] at D1
    obtain ⟨xs2, hq2, hx2⟩ := hg p2 (by simp)
    obtain ⟨its2, rv2, q2, _⟩ := sq_seq I hq2
    have l2 : its2.toArray.size = i := by have := rv2.length; simp; omega
    have D2 := draws_of (prog := X.prog) (w := X.w) (A := X.A.in1) (I.ok.hd hc) i2 p2 ne2 its2
    rw [l2] at D2
    exact py_end2 (I.ok.hd hc) S D1 D2 hz hTI hTO ⟨h1, q1⟩ ⟨h2, q2⟩ fun h2 hk => ⟨rfl, I.turnedL (t' := s.toks) (ch := [z, TI, TO, i1, i2]) (fun c o hb q => hk c o (fun q => hb (by simp [q])) (fun q => hb (by simp [q])) (fun q => hb (by simp [q])) (fun q => hb (by simp [q])) q) hf⟩
  self := fun A i s Q E st h => iter_zip st.1 h
theorem sep_new2 {M : Nat} {p1 p2 : Bool × Addr} (h1 : p1.2 < M) (h2 : p2.2 < M) : Sep2 (M + 4) (M + 2) (M + 3) M (M + 1) [M, p1.2] [M + 1, p2.2] where
  zTO := by show (M + 4 : Nat) ≠ M + 3; omega
  zTI := by show (M + 4 : Nat) ≠ M + 2; omega
  TOTI := by show (M + 3 : Nat) ≠ M + 2; omega
  m1 := by simp
  z1 := nin_new (a := p1.2) 4 0 h1 (by decide)
  T1 := nin_new (a := p1.2) 3 0 h1 (by decide)
  I1 := by show (M + 2 : Nat) ≠ M; omega
  s2_1 := nin_new (a := p1.2) 1 0 h1 (by decide)
  m2 := by simp
  z2 := nin_new (a := p2.2) 4 1 h2 (by decide)
  T2 := nin_new (a := p2.2) 3 1 h2 (by decide)
  I2 := by show (M + 2 : Nat) ≠ M + 1; omega
  s1_2 := nin_new (a := p2.2) 0 1 h2 (by decide)
theorem pi_z2s {X : Cx} {e1 e2 : Expr} {ta : TA} {p pos tpos : Pos} {elts : List Expr} {kk : Nat} {jj : Nat} {kp kp2 : Pos} {fl : List Bool} (hfl : fl.length = 2) (hg : Gl X "zip") (hm : X.mg "zip" = none) (ha : PA X [e1, e2] ta)
    (hs : starEach [e1, e2] X.env = (false, eval e1 X.env) :: starEach [e2] X.env := by rfl) (hpl : (backTo pos (starEach [e2] X.env)).any (·.1) = false := by rfl) :
    PI X (.Tuple elts kk tpos) (.Call (.Name "zip" p) [e1, e2] [⟨some "strict", .Constant (.bool true) jj kp, kp2⟩] pos) (iZ X.K fl ta) := by
  refine ⟨fun pins s σ H R I h => ?_⟩
  refine wpAny_Call_Name_kw (ld_blt I hg hm PyProof.Rows.boot_zip ?_)
  refine PySem.W.callWith_of (P := fun _ => True) ?_ (fun h _ => looks_ty "zip" True.intro) ?_
  · show ((backTo pos (starEach _ X.env)).any (·.1) || false) = false
    rw [hs, Bool.or_false]
    exact hpl
  have he : backTo pos (starEach [e1, e2] X.env) = (false, eval e1 X.env) :: backTo pos (starEach [e2] X.env) := by rw [hs]; rfl
  rw [he]
  refine PyProof.Rows.evalArgs_kwB rfl ?_
  rw [← he]
  refine thn (ha.run pos pins s σ H _ I h) fun us s0 ⟨vs, H1, I0, r1, q1⟩ => ?_
  refine PyProof.Rows.kws_cons (Constant_bool (PyProof.Rows.kws_nil ⟨True.intro, ?_⟩))
  have I1 := I0
  obtain ⟨l, ev, el, hl, q1⟩ := q1
  subst ev
  obtain ⟨b1, b2, rfl⟩ : ∃ b1 b2 : Bool, fl = [b1, b2] := match fl, hfl with | [_, _], _ => ⟨_, _, rfl⟩
  obtain ⟨c1, c2, rfl⟩ : ∃ c1 c2 : Addr, l = [c1, c2] := match l, el with | [_, _], _ => ⟨_, _, rfl⟩
  cases r1 with
  | cons r_1 rr1 =>
    cases r_1
    cases rr1 with
    | cons r_2 rr2 =>
      cases r_2
      cases rr2
      obtain ⟨xs1, hq1⟩ := hl (b1, c1) (by simp)
      obtain ⟨its1, rv1, g1, lt1⟩ := sq_seq I1 hq1
      obtain ⟨xs2, hq2⟩ := hl (b2, c2) (by simp)
      obtain ⟨its2, rv2, g2, lt2⟩ := sq_seq I1 hq2
      have frs : ∀ c, c ∈ [s0.heap.objs.size + 4, s0.heap.objs.size + 2, s0.heap.objs.size + 3, s0.heap.objs.size, s0.heap.objs.size + 1] → FpOk X pins H1 c := fun c hcm => by
        have e : c = s0.heap.objs.size + 4 ∨ c = s0.heap.objs.size + 2 ∨ c = s0.heap.objs.size + 3 ∨ c = s0.heap.objs.size ∨ c = s0.heap.objs.size + 1 := by simpa using hcm
        have hle : s0.heap.objs.size ≤ c := by
          rcases e with q | q | q | q | q
          · rw [q]; exact Nat.le_add_right _ _
          · rw [q]; exact Nat.le_add_right _ _
          · rw [q]; exact Nat.le_add_right _ _
          · rw [q]; exact Nat.le_refl _
          · rw [q]; exact Nat.le_add_right _ _
        exact I1.fpOk hle (I1.hok.fresh hle)
      refine begins_strict2 (begins_of (b1, c1) its1) (begins_of (b2, c2) its2) g1 g2 fun hA hz hTI hTO y1 y2 kk => iter_zip hz ?_
      have I2 : Inv X pins σ H1 { s0 with heap := hA } := I1.kept (t' := s0.toks) kk
      exact ⟨_, [s0.heap.objs.size + 4, s0.heap.objs.size + 2, s0.heap.objs.size + 3, s0.heap.objs.size, s0.heap.objs.size + 1], _, _, H1, rfl, I2, turn_z2 (sep_new2 lt1 lt2) (Nat.ne_of_lt lt1) (Nat.ne_of_lt (Nat.lt_of_lt_of_le lt2 (Nat.le_add_right _ 1))), ⟨hz, hTI, ⟨_, _, hTO⟩, SqIt.begin y1, SqIt.begin y2⟩, frs, q1⟩
theorem pi_z2 {X : Cx} {e1 e2 : Expr} {ta : TA} {p pos tpos : Pos} {elts : List Expr} {kk : Nat} {fl : List Bool} (hfl : fl.length = 2) (hg : Gl X "zip") (hm : X.mg "zip" = none) (ha : PA X [e1, e2] ta)
    (hs : starEach [e1, e2] X.env = (false, eval e1 X.env) :: starEach [e2] X.env := by rfl) (hpl : (backTo pos (starEach [e2] X.env)).any (·.1) = false := by rfl) :
    PI X (.Tuple elts kk tpos) (.Call (.Name "zip" p) [e1, e2] [] pos) (iZ X.K fl ta) := by
  refine ⟨fun pins s σ H R I h => ?_⟩
  refine Call_ (ld_blt I hg hm PyProof.Rows.boot_zip (PyProof.Rows.callWith_type1 (thn (ha.run pos pins s σ H _ I h) fun us s0 ⟨vs, H1, I1, r1, q1⟩ => ?_) hs hpl))
  obtain ⟨l, ev, el, hl, q1⟩ := q1
  subst ev
  obtain ⟨b1, b2, rfl⟩ : ∃ b1 b2 : Bool, fl = [b1, b2] := match fl, hfl with | [_, _], _ => ⟨_, _, rfl⟩
  obtain ⟨c1, c2, rfl⟩ : ∃ c1 c2 : Addr, l = [c1, c2] := match l, el with | [_, _], _ => ⟨_, _, rfl⟩
  cases r1 with
  | cons r_1 rr1 =>
    cases r_1
    cases rr1 with
    | cons r_2 rr2 =>
      cases r_2
      cases rr2
      obtain ⟨xs1, hq1⟩ := hl (b1, c1) (by simp)
      obtain ⟨its1, rv1, g1, lt1⟩ := sq_seq I1 hq1
      obtain ⟨xs2, hq2⟩ := hl (b2, c2) (by simp)
      obtain ⟨its2, rv2, g2, lt2⟩ := sq_seq I1 hq2
      have frs : ∀ c, c ∈ [s0.heap.objs.size + 4, s0.heap.objs.size + 2, s0.heap.objs.size + 3, s0.heap.objs.size, s0.heap.objs.size + 1] → FpOk X pins H1 c := fun c hcm => by
        have e : c = s0.heap.objs.size + 4 ∨ c = s0.heap.objs.size + 2 ∨ c = s0.heap.objs.size + 3 ∨ c = s0.heap.objs.size ∨ c = s0.heap.objs.size + 1 := by simpa using hcm
        have hle : s0.heap.objs.size ≤ c := by
          rcases e with q | q | q | q | q
          · rw [q]; exact Nat.le_add_right _ _
          · rw [q]; exact Nat.le_add_right _ _
          · rw [q]; exact Nat.le_add_right _ _
          · rw [q]; exact Nat.le_refl _
          · rw [q]; exact Nat.le_add_right _ _
        exact I1.fpOk hle (I1.hok.fresh hle)
      refine zip_begins2 (begins_of (b1, c1) its1) (begins_of (b2, c2) its2) g1 g2 fun hA hz hTI hTO y1 y2 _ kk => iter_zip (b := false) hz ?_
      have I2 : Inv X pins σ H1 { s0 with heap := hA } := I1.kept (t' := s0.toks) kk
      exact ⟨_, [s0.heap.objs.size + 4, s0.heap.objs.size + 2, s0.heap.objs.size + 3, s0.heap.objs.size, s0.heap.objs.size + 1], _, _, H1, rfl, I2, turn_z2 (sep_new2 lt1 lt2) (Nat.ne_of_lt lt1) (Nat.ne_of_lt (Nat.lt_of_lt_of_le lt2 (Nat.le_add_right _ 1))), ⟨hz, hTI, ⟨_, _, hTO⟩, SqIt.begin y1, SqIt.begin y2⟩, frs, q1⟩
theorem turn_z3 {P : Program} {w : World} {K : PySem.W.Frag} {elts : List Expr} {kk : Nat} {tpos : Pos} {z TI TO i1 i2 i3 : Addr} {p1 p2 p3 : Bool × Addr} {b : Bool} (S : Sep3 z TI TO i1 i2 i3 [i1, p1.2] [i2, p2.2] [i3, p3.2]) (ne1 : p1.2 ≠ i1) (ne2 : p2.2 ≠ i2) (ne3 : p3.2 ≠ i3) :
    Turn P w K (.Tuple elts kk tpos) (ItZ K [p1, p2, p3]) [z, TI, TO, i1, i2, i3] z (fun i h => ZipO h z TI TO .none b ∧ TupO h TI #[.ref i1, .ref i2, .ref i3] ∧ (∃ a1 a2 a3, TupO h TO #[a1, a2, a3]) ∧ SqIt h i1 p1 i ∧ SqIt h i2 p2 i ∧ SqIt h i3 p3 i) where
  mem := by simp
  obj := fun i h st c hc => by
    obtain ⟨hz, hTI, ⟨a1, a2, a3, hTO⟩, h1, h2, h3⟩ := st
    have e : c = z ∨ c = TI ∨ c = TO ∨ c = i1 ∨ c = i2 ∨ c = i3 := by simpa using hc
    rcases e with q | q | q | q | q | q
    · rw [q]; exact ⟨_, hz, fun v q => nomatch q⟩
    · rw [q]; exact ⟨_, hTI, fun v q => nomatch q⟩
    · rw [q]; exact ⟨_, hTO, fun v q => nomatch q⟩
    · rw [q]; exact h1.obj
    · rw [q]; exact h2.obj
    · rw [q]; exact h3.obj
  keep := fun i h h2 st k => by
    obtain ⟨hz, hTI, ⟨a1, a2, a3, hTO⟩, h1, h2, h3⟩ := st
    exact ⟨k z (by simp) _ hz, k TI (by simp) _ hTI, ⟨a1, a2, a3, k TO (by simp) _ hTO⟩, h1.at fun o q => k i1 (by simp) o q, h2.at fun o q => k i2 (by simp) o q, h3.at fun o q => k i3 (by simp) o q⟩
  item := by
    intro X hP hw hK hc i pins s σ H E I hf st hg
    subst hP hw hK
    obtain ⟨hz, hTI, ⟨a1, a2, a3, hTO⟩, h1, h2, h3⟩ := st
    obtain ⟨vs, hv⟩ := hg
    cases hv with
    | cons r1 hv1 =>
      rename_i v1 ws1
      obtain ⟨xs1, hq1, hx1⟩ := r1
      obtain ⟨its1, rv1, q1, _⟩ := sq_seq I hq1
      obtain ⟨u1, hu1, ru1⟩ := rv1.get hx1
      have g1 : its1.toArray[i]? = some u1 := by simpa using hu1
      have l1 : i < its1.toArray.size := by have := (List.getElem?_eq_some_iff.mp hu1).1; simpa using this
      cases hv1 with
      | cons r2 hv2 =>
        rename_i v2 ws2
        obtain ⟨xs2, hq2, hx2⟩ := r2
        obtain ⟨its2, rv2, q2, _⟩ := sq_seq I hq2
        obtain ⟨u2, hu2, ru2⟩ := rv2.get hx2
        have g2 : its2.toArray[i]? = some u2 := by simpa using hu2
        have l2 : i < its2.toArray.size := by have := (List.getElem?_eq_some_iff.mp hu2).1; simpa using this
        cases hv2 with
        | cons r3 hv3 =>
          rename_i v3 ws3
          obtain ⟨xs3, hq3, hx3⟩ := r3
          obtain ⟨its3, rv3, q3, _⟩ := sq_seq I hq3
          obtain ⟨u3, hu3, ru3⟩ := rv3.get hx3
          have g3 : its3.toArray[i]? = some u3 := by simpa using hu3
          have l3 : i < its3.toArray.size := by have := (List.getElem?_eq_some_iff.mp hu3).1; simpa using this
          cases hv3
          have hzl : z < s.heap.objs.size := Heap.lt_size hz
          refine py_item3 S (draws_of (A := X.A.in1) (I.ok.hd hc) i1 p1 ne1 its1) (draws_of (A := X.A.in1) (I.ok.hd hc) i2 p2 ne2 its2) (draws_of (A := X.A.in1) (I.ok.hd hc) i3 p3 ne3 its3) hz hTI hTO ⟨h1, q1⟩ ⟨h2, q2⟩ ⟨h3, q3⟩ l1 l2 l3 fun x1 x2 x3 hA tk y1 y2 y3 z2 TO2 n1 n2 n3 hT hk => ?_
          obtain rfl : u1 = x1 := Option.some.inj (g1.symm.trans y1)
          obtain rfl : u2 = x2 := Option.some.inj (g2.symm.trans y2)
          obtain rfl : u3 = x3 := Option.some.inj (g3.symm.trans y3)
          refine ⟨_, rfl, go_zip (s := { s with heap := hA, toks := tk }) z2 fun hB z3 sb => ?_⟩
          replace sb : Heap.SameBut z hA hB := sb
          have hT2 : hB.get? s.heap.objs.size = some { cls := .type "tuple", data := .seq #[u1, u2, u3] } := (sb.2 _ (Nat.ne_of_gt hzl)).trans hT
          have new : ObjOk X.prog X.w (upd H s.heap.objs.size (.tup [v1, v2, v3])) hB s.heap.objs.size (.tup [v1, v2, v3]) := ⟨by show 3 ≤ sizeLine; decide, [u1, u2, u3], (.cons ru1 (.cons ru2 (.cons ru3 .nil))), ⟨_, hT2, rfl, _, rfl⟩⟩
          have I1 : Inv X pins σ (upd H s.heap.objs.size (.tup [v1, v2, v3])) { s with heap := hB, toks := tk } := I.turnedNew (t' := tk) (ch := [z, TI, TO, i1, i2, i3]) (fun c o hb q => (sb.2 c (fun q => hb (by simp [q]))).trans (hk c o (fun q => hb (by simp [q])) (fun q => hb (by simp [q])) (fun q => hb (by simp [q])) (fun q => hb (by simp [q])) (fun q => hb (by simp [q])) q)) hf (Nat.le_refl _) new
          refine ⟨.ref s.heap.objs.size, _, I1, rfl, ⟨_, _, rfl, I.hok.fresh (Nat.le_refl _), rfl, (.cons (fun l hl => by rw [sq_inj I hl hq1]; exact hx1) (.cons (fun l hl => by rw [sq_inj I hl hq2]; exact hx2) (.cons (fun l hl => by rw [sq_inj I hl hq3]; exact hx3) .nil)))⟩, ⟨z3, (sb.2 _ S.zTI.symm).trans (hk _ _ S.zTI.symm S.TOTI.symm S.I1 S.I2 S.I3 hTI), ⟨u1, u2, u3, (sb.2 _ S.zTO.symm).trans TO2⟩, (n1.1.at fun o q => (sb.2 _ (fun q => S.z1 (by rw [← q]; exact S.m1))).trans q), (n2.1.at fun o q => (sb.2 _ (fun q => S.z2 (by rw [← q]; exact S.m2))).trans q), (n3.1.at fun o q => (sb.2 _ (fun q => S.z3 (by rw [← q]; exact S.m3))).trans q)⟩, fun c hcm => ?_⟩
          have hlt : c < s.heap.objs.size := by
            have e : c = z ∨ c = TI ∨ c = TO ∨ c = i1 ∨ c = i2 ∨ c = i3 := by simpa using hcm
            rcases e with q | q | q | q | q | q
            · rw [q]; exact hzl
            · rw [q]; exact Heap.lt_size hTI
            · rw [q]; exact Heap.lt_size hTO
            · rw [q]; obtain ⟨_, e1, _⟩ := h1.obj; exact Heap.lt_size e1
            · rw [q]; obtain ⟨_, e1, _⟩ := h2.obj; exact Heap.lt_size e1
            · rw [q]; obtain ⟨_, e1, _⟩ := h3.obj; exact Heap.lt_size e1
          rw [upd_ne (Nat.ne_of_lt hlt)]
          exact (hf c hcm).1
  done := by
    intro X hP hw hK hc i pins s σ H E I hf st hg
    subst hP hw hK
    obtain ⟨hz, hTI, ⟨a1, a2, a3, hTO⟩, h1, h2, h3⟩ := st
    obtain ⟨xs1, hq1, hx1⟩ := hg p1 (by simp)
    obtain ⟨its1, rv1, q1, _⟩ := sq_seq I hq1
    have l1 : its1.toArray.size = i := by have := rv1.length; simp; omega
    have D1 := draws_of (prog := X.prog) (w := X.w) (A := X.A.in1) (I.ok.hd hc) i1 p1 ne1 its1
    rw [l1] at D1
    obtain ⟨xs2, hq2, hx2⟩ := hg p2 (by simp)
    obtain ⟨its2, rv2, q2, _⟩ := sq_seq I hq2
    have l2 : its2.toArray.size = i := by have := rv2.length; simp; omega
    have D2 := draws_of (prog := X.prog) (w := X.w) (A := X.A.in1) (I.ok.hd hc) i2 p2 ne2 its2
    rw [l2] at D2
    obtain ⟨xs3, hq3, hx3⟩ := hg p3 (by simp)
    obtain ⟨its3, rv3, q3, _⟩ := sq_seq I hq3
    have l3 : its3.toArray.size = i := by have := rv3.length; simp; omega
    have D3 := draws_of (prog := X.prog) (w := X.w) (A := X.A.in1) (I.ok.hd hc) i3 p3 ne3 its3
    rw [l3] at D3
    exact py_end3 (I.ok.hd hc) S D1 D2 D3 hz hTI hTO ⟨h1, q1⟩ ⟨h2, q2⟩ ⟨h3, q3⟩ fun h2 hk => ⟨rfl, I.turnedL (t' := s.toks) (ch := [z, TI, TO, i1, i2, i3]) (fun c o hb q => hk c o (fun q => hb (by simp [q])) (fun q => hb (by simp [q])) (fun q => hb (by simp [q])) (fun q => hb (by simp [q])) (fun q => hb (by simp [q])) q) hf⟩
  self := fun A i s Q E st h => iter_zip st.1 h
theorem sep_new3 {M : Nat} {p1 p2 p3 : Bool × Addr} (h1 : p1.2 < M) (h2 : p2.2 < M) (h3 : p3.2 < M) : Sep3 (M + 5) (M + 3) (M + 4) M (M + 1) (M + 2) [M, p1.2] [M + 1, p2.2] [M + 2, p3.2] where
  zTO := by show (M + 5 : Nat) ≠ M + 4; omega
  zTI := by show (M + 5 : Nat) ≠ M + 3; omega
  TOTI := by show (M + 4 : Nat) ≠ M + 3; omega
  m1 := by simp
  z1 := nin_new (a := p1.2) 5 0 h1 (by decide)
  T1 := nin_new (a := p1.2) 4 0 h1 (by decide)
  I1 := by show (M + 3 : Nat) ≠ M; omega
  s2_1 := nin_new (a := p1.2) 1 0 h1 (by decide)
  s3_1 := nin_new (a := p1.2) 2 0 h1 (by decide)
  m2 := by simp
  z2 := nin_new (a := p2.2) 5 1 h2 (by decide)
  T2 := nin_new (a := p2.2) 4 1 h2 (by decide)
  I2 := by show (M + 3 : Nat) ≠ M + 1; omega
  s1_2 := nin_new (a := p2.2) 0 1 h2 (by decide)
  s3_2 := nin_new (a := p2.2) 2 1 h2 (by decide)
  m3 := by simp
  z3 := nin_new (a := p3.2) 5 2 h3 (by decide)
  T3 := nin_new (a := p3.2) 4 2 h3 (by decide)
  I3 := by show (M + 3 : Nat) ≠ M + 2; omega
  s1_3 := nin_new (a := p3.2) 0 2 h3 (by decide)
  s2_3 := nin_new (a := p3.2) 1 2 h3 (by decide)
theorem pi_z3s {X : Cx} {e1 e2 e3 : Expr} {ta : TA} {p pos tpos : Pos} {elts : List Expr} {kk : Nat} {jj : Nat} {kp kp2 : Pos} {fl : List Bool} (hfl : fl.length = 3) (hg : Gl X "zip") (hm : X.mg "zip" = none) (ha : PA X [e1, e2, e3] ta)
    (hs : starEach [e1, e2, e3] X.env = (false, eval e1 X.env) :: starEach [e2, e3] X.env := by rfl) (hpl : (backTo pos (starEach [e2, e3] X.env)).any (·.1) = false := by rfl) :
    PI X (.Tuple elts kk tpos) (.Call (.Name "zip" p) [e1, e2, e3] [⟨some "strict", .Constant (.bool true) jj kp, kp2⟩] pos) (iZ X.K fl ta) := by
  refine ⟨fun pins s σ H R I h => ?_⟩
  refine wpAny_Call_Name_kw (ld_blt I hg hm PyProof.Rows.boot_zip ?_)
  refine PySem.W.callWith_of (P := fun _ => True) ?_ (fun h _ => looks_ty "zip" True.intro) ?_
  · show ((backTo pos (starEach _ X.env)).any (·.1) || false) = false
    rw [hs, Bool.or_false]
    exact hpl
  have he : backTo pos (starEach [e1, e2, e3] X.env) = (false, eval e1 X.env) :: backTo pos (starEach [e2, e3] X.env) := by rw [hs]; rfl
  rw [he]
  refine PyProof.Rows.evalArgs_kwB rfl ?_
  rw [← he]
  refine thn (ha.run pos pins s σ H _ I h) fun us s0 ⟨vs, H1, I0, r1, q1⟩ => ?_
  refine PyProof.Rows.kws_cons (Constant_bool (PyProof.Rows.kws_nil ⟨True.intro, ?_⟩))
  have I1 := I0
  obtain ⟨l, ev, el, hl, q1⟩ := q1
  subst ev
  obtain ⟨b1, b2, b3, rfl⟩ : ∃ b1 b2 b3 : Bool, fl = [b1, b2, b3] := match fl, hfl with | [_, _, _], _ => ⟨_, _, _, rfl⟩
  obtain ⟨c1, c2, c3, rfl⟩ : ∃ c1 c2 c3 : Addr, l = [c1, c2, c3] := match l, el with | [_, _, _], _ => ⟨_, _, _, rfl⟩
  cases r1 with
  | cons r_1 rr1 =>
    cases r_1
    cases rr1 with
    | cons r_2 rr2 =>
      cases r_2
      cases rr2 with
      | cons r_3 rr3 =>
        cases r_3
        cases rr3
        obtain ⟨xs1, hq1⟩ := hl (b1, c1) (by simp)
        obtain ⟨its1, rv1, g1, lt1⟩ := sq_seq I1 hq1
        obtain ⟨xs2, hq2⟩ := hl (b2, c2) (by simp)
        obtain ⟨its2, rv2, g2, lt2⟩ := sq_seq I1 hq2
        obtain ⟨xs3, hq3⟩ := hl (b3, c3) (by simp)
        obtain ⟨its3, rv3, g3, lt3⟩ := sq_seq I1 hq3
        have frs : ∀ c, c ∈ [s0.heap.objs.size + 5, s0.heap.objs.size + 3, s0.heap.objs.size + 4, s0.heap.objs.size, s0.heap.objs.size + 1, s0.heap.objs.size + 2] → FpOk X pins H1 c := fun c hcm => by
          have e : c = s0.heap.objs.size + 5 ∨ c = s0.heap.objs.size + 3 ∨ c = s0.heap.objs.size + 4 ∨ c = s0.heap.objs.size ∨ c = s0.heap.objs.size + 1 ∨ c = s0.heap.objs.size + 2 := by simpa using hcm
          have hle : s0.heap.objs.size ≤ c := by
            rcases e with q | q | q | q | q | q
            · rw [q]; exact Nat.le_add_right _ _
            · rw [q]; exact Nat.le_add_right _ _
            · rw [q]; exact Nat.le_add_right _ _
            · rw [q]; exact Nat.le_refl _
            · rw [q]; exact Nat.le_add_right _ _
            · rw [q]; exact Nat.le_add_right _ _
          exact I1.fpOk hle (I1.hok.fresh hle)
        refine begins_strict3 (begins_of (b1, c1) its1) (begins_of (b2, c2) its2) (begins_of (b3, c3) its3) g1 g2 g3 fun hA hz hTI hTO y1 y2 y3 kk => iter_zip hz ?_
        have I2 : Inv X pins σ H1 { s0 with heap := hA } := I1.kept (t' := s0.toks) kk
        exact ⟨_, [s0.heap.objs.size + 5, s0.heap.objs.size + 3, s0.heap.objs.size + 4, s0.heap.objs.size, s0.heap.objs.size + 1, s0.heap.objs.size + 2], _, _, H1, rfl, I2, turn_z3 (sep_new3 lt1 lt2 lt3) (Nat.ne_of_lt lt1) (Nat.ne_of_lt (Nat.lt_of_lt_of_le lt2 (Nat.le_add_right _ 1))) (Nat.ne_of_lt (Nat.lt_of_lt_of_le lt3 (Nat.le_add_right _ 2))), ⟨hz, hTI, ⟨_, _, _, hTO⟩, SqIt.begin y1, SqIt.begin y2, SqIt.begin y3⟩, frs, q1⟩
theorem pi_z3 {X : Cx} {e1 e2 e3 : Expr} {ta : TA} {p pos tpos : Pos} {elts : List Expr} {kk : Nat} {fl : List Bool} (hfl : fl.length = 3) (hg : Gl X "zip") (hm : X.mg "zip" = none) (ha : PA X [e1, e2, e3] ta)
    (hs : starEach [e1, e2, e3] X.env = (false, eval e1 X.env) :: starEach [e2, e3] X.env := by rfl) (hpl : (backTo pos (starEach [e2, e3] X.env)).any (·.1) = false := by rfl) :
    PI X (.Tuple elts kk tpos) (.Call (.Name "zip" p) [e1, e2, e3] [] pos) (iZ X.K fl ta) := by
  refine ⟨fun pins s σ H R I h => ?_⟩
  refine Call_ (ld_blt I hg hm PyProof.Rows.boot_zip (PyProof.Rows.callWith_type1 (thn (ha.run pos pins s σ H _ I h) fun us s0 ⟨vs, H1, I1, r1, q1⟩ => ?_) hs hpl))
  obtain ⟨l, ev, el, hl, q1⟩ := q1
  subst ev
  obtain ⟨b1, b2, b3, rfl⟩ : ∃ b1 b2 b3 : Bool, fl = [b1, b2, b3] := match fl, hfl with | [_, _, _], _ => ⟨_, _, _, rfl⟩
  obtain ⟨c1, c2, c3, rfl⟩ : ∃ c1 c2 c3 : Addr, l = [c1, c2, c3] := match l, el with | [_, _, _], _ => ⟨_, _, _, rfl⟩
  cases r1 with
  | cons r_1 rr1 =>
    cases r_1
    cases rr1 with
    | cons r_2 rr2 =>
      cases r_2
      cases rr2 with
      | cons r_3 rr3 =>
        cases r_3
        cases rr3
        obtain ⟨xs1, hq1⟩ := hl (b1, c1) (by simp)
        obtain ⟨its1, rv1, g1, lt1⟩ := sq_seq I1 hq1
        obtain ⟨xs2, hq2⟩ := hl (b2, c2) (by simp)
        obtain ⟨its2, rv2, g2, lt2⟩ := sq_seq I1 hq2
        obtain ⟨xs3, hq3⟩ := hl (b3, c3) (by simp)
        obtain ⟨its3, rv3, g3, lt3⟩ := sq_seq I1 hq3
        have frs : ∀ c, c ∈ [s0.heap.objs.size + 5, s0.heap.objs.size + 3, s0.heap.objs.size + 4, s0.heap.objs.size, s0.heap.objs.size + 1, s0.heap.objs.size + 2] → FpOk X pins H1 c := fun c hcm => by
          have e : c = s0.heap.objs.size + 5 ∨ c = s0.heap.objs.size + 3 ∨ c = s0.heap.objs.size + 4 ∨ c = s0.heap.objs.size ∨ c = s0.heap.objs.size + 1 ∨ c = s0.heap.objs.size + 2 := by simpa using hcm
          have hle : s0.heap.objs.size ≤ c := by
            rcases e with q | q | q | q | q | q
            · rw [q]; exact Nat.le_add_right _ _
            · rw [q]; exact Nat.le_add_right _ _
            · rw [q]; exact Nat.le_add_right _ _
            · rw [q]; exact Nat.le_refl _
            · rw [q]; exact Nat.le_add_right _ _
            · rw [q]; exact Nat.le_add_right _ _
          exact I1.fpOk hle (I1.hok.fresh hle)
        refine zip_begins3 (begins_of (b1, c1) its1) (begins_of (b2, c2) its2) (begins_of (b3, c3) its3) g1 g2 g3 fun hA hz hTI hTO y1 y2 y3 _ kk => iter_zip (b := false) hz ?_
        have I2 : Inv X pins σ H1 { s0 with heap := hA } := I1.kept (t' := s0.toks) kk
        exact ⟨_, [s0.heap.objs.size + 5, s0.heap.objs.size + 3, s0.heap.objs.size + 4, s0.heap.objs.size, s0.heap.objs.size + 1, s0.heap.objs.size + 2], _, _, H1, rfl, I2, turn_z3 (sep_new3 lt1 lt2 lt3) (Nat.ne_of_lt lt1) (Nat.ne_of_lt (Nat.lt_of_lt_of_le lt2 (Nat.le_add_right _ 1))) (Nat.ne_of_lt (Nat.lt_of_lt_of_le lt3 (Nat.le_add_right _ 2))), ⟨hz, hTI, ⟨_, _, _, hTO⟩, SqIt.begin y1, SqIt.begin y2, SqIt.begin y3⟩, frs, q1⟩
end CZ

namespace CS
open PySem PySem.Spec PyProof.Rows L2
/-! ### rules beside the layer's -/
section
variable {X : Cx}
/-- a product, whatever the reason that it fits -/
theorem op_mulI : OpR X (binaryOp .Mult) (rI IntMulOk fun i j => .int (i * j)) := opI fun _ _ _ _ _ _ _ hc q => mul_int q hc
/-- list + list, however each is known -/
def rCatR (K : PySem.W.Frag) : R2 := fun x y H Q => ∃ l b xs zs, x = .ref l ∧ y = .ref b ∧ SqL K H l xs ∧ SqL K H b zs ∧ xs.length + zs.length ≤ sizeLine ∧ ∀ p, H p = none → Q (.ref p) (upd H p (.lst (xs ++ zs)))
theorem op_catR : OpR X (binaryOp .Add) (rCatR X.K) := by
  intro pins s σ H x y v u Q I rx ry h
  obtain ⟨l, b, xs, zs, rfl, rfl, hH, hB, hz, q⟩ := h
  cases rx
  cases ry
  obtain ⟨its, r, p1, _⟩ := I.list hH
  obtain ⟨its2, r2, p2, _⟩ := I.list hB
  obtain ⟨⟨cls, dd, data, sl⟩, ho, hc, n, hd⟩ := id p1.isList
  obtain ⟨⟨cls2, dd2, data2, sl2⟩, ho2, hc2, n2, hd2⟩ := id p2.isList
  simp only at hc hd hc2 hd2
  subst hc hd hc2 hd2
  have l1 := r.length
  have l2 := r2.length
  have ea : its.toArray ++ its2.toArray = (its ++ its2).toArray := by simp
  refine concat_meets ⟨_, ho, rfl⟩ ⟨_, ho2, rfl⟩ noFill_list_add seq_list_add PySem.F.slot_list_add PySem.F.entry_list_add (PySem.F.args_list_add_2 _ _) (list_addW l b its.toArray its2.toArray n n2 dd dd2 sl sl2 (by rw [List.size_toArray, List.size_toArray]; omega)) ⟨ho, ho2, ?_⟩
  rw [ea]
  exact ⟨.ref _, _, I.lnew (t' := s.toks) (r.append r2) (by rw [List.length_append]; omega), rfl, q _ I.fresh⟩
theorem pi_or {tg it : Expr} {w1 w2 : TI} (h1 : PI X tg it w1) (h2 : PI X tg it w2) : PI X tg it (fun σ H R => w1 σ H R ∨ w2 σ H R) :=
  ⟨fun pins s σ H R I h => h.elim (fun z => h1.run pins s σ H R I z) fun z => h2.run pins s σ H R I z⟩
end
/-! ### calls by keywords alone -/
def pick {α : Type} (js : List Nat) (l : List α) : List α := js.filterMap fun j => l[j]?
theorem vals_pick {xs : List V} {us : List Value} (r : Vals xs us) : ∀ js : List Nat, Vals (pick js xs) (pick js us)
  | [] => .nil
  | j :: js => by
    have ih := vals_pick r js
    unfold pick at ih ⊢
    cases e : xs[j]? with
    | none =>
      have e2 := r.none_of e
      rw [List.filterMap_cons_none (by rw [e]), List.filterMap_cons_none (by rw [e2])]
      exact ih
    | some x =>
      obtain ⟨u, e2, ru⟩ := r.get e
      rw [List.filterMap_cons_some (by rw [e]), List.filterMap_cons_some (by rw [e2])]
      exact .cons ru ih
theorem kbn_of {K : PySem.W.Frag} {x qual : Str} {st : Stmt} {f : Addr} {fd : FuncData} {ps : List Str} (F : Fun K x qual st f fd) (n : Nat) (ks : List Str) (js : List Nat)
    (h : ∀ (kV doc pm : Value) (an : Option Addr) (cdv ct : Value) (us ws : List Value), us.length = n → ws.length = ks.length → bindArgs (PySem.W.fnOf x qual (defArgs st) (defBody st) (defScope st) .none kV doc pm an cdv ct) ⟨us, ks.zip ws⟩ = pure (ps.zip (pick js (us ++ ws)))) :
    KBn K fd ps n ks (fun us ws => pick js (us ++ ws)) (fun vs zs => pick js (vs ++ zs)) := by
  obtain ⟨oc, od, kV, doc, pm, an, cdv, ct, osl, rfl, lk, hcd⟩ := F.ex
  exact ⟨fun s us ws _ h1 h2 => .of_eq (h kV doc pm an cdv ct us ws h1 h2), fun r1 r2 => vals_pick (r1.append r2) js⟩
section
variable {X : Cx} {CX : CXT} {k n : Nat} {f C : Addr} {fd : FuncData} {ps ks : List Str} {sp : Sp} {E : XK} {x m : Str} {p pos apos : Pos} {o : Expr} {kws : List Keyword} {ta : TE} {tk : TA} {g : List Value → List Value → List Value} {gV : List V → List V → List V}
theorem run_kw {pins : List (Addr × Obj)} {σ : L2.St} {H : Hp} {s : Shared} {Q : VK} {us ws : List Value} {vs zs : List V} (F : FnOk X.prog X.w X.K X.mg X.base CX k f fd ps sp) (hr : Room k X.A) (hb : KBn X.K fd ps n ks g gV) (hx : Passes CX X E)
    (I : Inv X pins σ H s) (r : Vals vs us) (rz : Vals zs ws) (l1 : vs.length = n) (l2 : zs.length = ks.length) (h : sp (gV vs zs) H Q E) : wpAny (model X.prog X.w) X.A (call (.ref f) us (ks.zip ws)) (EP X pins σ Q) X.xe s := by
  refine wpAny_call (codeAny_mono (F.run X.A X.stack s H ⟨us, ks.zip ws⟩ (g us ws) (gV vs zs) Q E hr I.env0 (hb.to s us ws I.kIn (r.length.symm.trans l1) (rz.length.symm.trans l2)) (hb.rel r rz) h) fun res s2 hq => ?_)
  cases res with
  | error e => exact hx pins σ H s e s2 I hq
  | ok fl =>
    cases fl with
    | ret u => exact I.after hq
    | next => exact False.elim hq
    | brk => exact False.elim hq
    | cont => exact False.elim hq
/-- f(k = v, ..) -/
def tCallKw (m : Nat) (sp : Sp) (gV : List V → List V → List V) (E : XK) (tk : TA) : TE := fun σ H Q => tk σ H fun zs H1 => zs.length = m ∧ sp (gV [] zs) H1 Q E
theorem pe_callKw (F : FnOk X.prog X.w X.K X.mg X.base CX k f fd ps sp) (hr : Room k X.A) (hg : Gl X x) (hm : X.mg x = some (.ref f)) (hk : PySem.W.keepIn X.K (.ref f) = true) (hb : KBn X.K fd ps 0 ks g gV) (hx : Passes CX X E) (hkw : PK X kws tk)
    (hall : (backToKw pos (keywordEach kws X.env)).all (·.1.isSome) = true := by rfl) (hks : (backToKw pos (keywordEach kws X.env)).filterMap (·.1) = ks := by rfl) (hdb : (x == ("__debug__" : Str)) = false := by decide)
    (hpl : ((backTo pos (starEach [] X.env)).any (·.1) || (backToKw pos (keywordEach kws X.env)).any (·.1.isNone)) = false := by rfl) :
    PE X (.Call (.Name x p) [] kws pos) (tCallKw ks.length sp gV E tk) := by
  refine ⟨fun pins s σ H Q I h => ?_⟩
  refine wpAny_Call_Name_kw (ld_glob I hg hm ?_ hdb)
  refine PySem.W.callWith_KW0 (h₀ := X.base) I.ok.mod.kin hk hall (thn (hkw.run pos pins s σ H _ I h) fun ws s2 ⟨zs, H2, I2, rz, l2, q2⟩ => ⟨I2.kIn, ?_⟩) hpl
  rw [hks]
  exact run_kw (us := []) (vs := []) F hr hb hx I2 .nil rz rfl l2 q2
/-- o.m(k = v, ..) -/
def tMethKw (C : Addr) (m : Str) (n : Nat) (sp : Sp) (gV : List V → List V → List V) (E : XK) (ta : TE) (tk : TA) : TE := fun σ H Q => ta σ H fun x H1 => ∃ a dx fs, x = .ref a ∧ H1 a = some (.ins C dx fs) ∧ fs.lookup m = none ∧
  tk σ H1 fun zs H2 => zs.length = n ∧ sp (gV [x] zs) H2 Q E
theorem pe_methKw {pl : Sem Bool} (he : PE X o ta) (c : Cls X.K C) (hm : Meth X.K C m f) (F : FnOk X.prog X.w X.K X.mg X.base CX k f fd ps sp) (hr : Room k X.A) (hb : KBn X.K fd ps 1 ks g gV) (hx : Passes CX X E) (hkw : PK X kws tk)
    (hall : (backToKw pos (keywordEach kws X.env)).all (·.1.isSome) = true := by rfl) (hks : (backToKw pos (keywordEach kws X.env)).filterMap (·.1) = ks := by rfl)
    (hpl : ((backTo pos (starEach [] X.env)).any (·.1) || (backToKw pos (keywordEach kws X.env)).any (·.1.isNone)) = false := by rfl)
    (ht : eval (.Call (.Attribute o m apos) [] kws pos) X.env = (do
      let ov ← eval o X.env
      standAt apos.atName
      let (f, first) ← holding [ov] (getMethod ov m pl)
      callWith pos f first (backTo pos (starEach [] X.env)) (backToKw pos (keywordEach kws X.env))) := by rfl) :
    PE X (.Call (.Attribute o m apos) [] kws pos) (tMethKw C m ks.length sp gV E ta tk) := by
  refine ⟨fun pins s σ H Q I h => ?_⟩
  refine PySem.W.methodCall_KW (pl := pl) (thn (he.run pins s σ H _ I h) fun u s1 ⟨x, H1, I1, rx, a, dx, fs, ex, ea, l, q⟩ => ?_) ht
  subst ex
  obtain rfl : u = Value.ref a := rx
  refine getmeth_ok I1 ea c hm l ?_
  refine PySem.W.callWith_KW0 (first := [.ref a]) (h₀ := X.base) I.ok.mod.kin hm.kp hall (thn (hkw.run pos pins s1 σ H1 _ I1 q) fun ws s2 ⟨zs, H2, I2, rz, l2, q2⟩ => ⟨I2.kIn, ?_⟩) hpl
  rw [hks]
  exact run_kw (us := [.ref a]) (vs := [.ref a]) F hr hb hx I2 (.cons rfl .nil) rz rfl l2 q2
end
/-! ### heaps that grow -/
abbrev Ex (H H2 : Hp) : Prop := Evl.Ex H H2
theorem exr {H : Hp} : Ex H H := fun _ _ h => h
theorem exn {H : Hp} {p : Addr} {o : HO} (h : H p = none) : Ex H (upd H p o) := Evl.Ex.new h
theorem SqK.mono {K : PySem.W.Frag} {H H2 : Hp} {p : Bool × Addr} {xs : List V} (e : Ex H H2) (h : CZ.SqK K H p xs) : CZ.SqK K H2 p xs := by
  obtain ⟨b, a⟩ := p
  cases b
  · exact Evl.ex_l e h
  · exact Evl.ex_t e h
/-- a comprehension whose element and tests leave all that stood: out i is what stands behind i turns -/
theorem lc_out {J : It} {n : Nat} {G : Hp → Prop} {Y : Nat → Hp → V → Hp → Prop} (w : Walk J n G Y) {g : TG} {tt : TT} {te : TE} {vs : List Nat} {σ : L2.St} {H1 : Hp} {D : Addr} {Qd : Hp → Prop} (out : Nat → List V) (h0 : out 0 = []) (hD : H1 D = none)
    (hlen : ∀ i, i < n → (out i).length < sizeLine) (hG : ∀ H, Ex H1 H → G H)
    (hs : ∀ i x H H2 (Nx : Hp → Prop), i < n → Ex H1 H → H D = some (.lst (out i)) → Y i H x H2 →
      (∀ y H5, Ex H H5 → out (i + 1) = out i ++ [y] → ∃ acc, H5 D = some (.lst acc) ∧ acc.length < sizeLine ∧ Nx (upd H5 D (.lst (acc ++ [y])))) → (∀ H4, Ex H H4 → out (i + 1) = out i → Nx H4) →
      g x (wipe σ vs) H2 fun σ2 H3 => wipe σ2 vs = wipe σ vs ∧ tt σ2 H3 fun b H4 => if b = true then te σ2 H4 fun y H5 => ∃ acc, H5 D = some (.lst acc) ∧ acc.length < sizeLine ∧ Nx (upd H5 D (.lst (acc ++ [y]))) else Nx H4)
    (hd : ∀ H, Ex H1 H → H D = some (.lst (out n)) → Qd H) :
    ∃ W : Nat → Nat → Hp → Prop, (∃ m, W 0 m (upd H1 D (.lst []))) ∧ ∀ i m H, W i m H →
      (J.stop i H ∧ Qd H) ∨ (J.go i H ∧ ∃ Nx : Hp → Prop, (∀ H2, Nx H2 → ∃ m2, m2 < m ∧ W (i + 1) m2 H2) ∧ ∀ x H2, J.yld i H x H2 → g x (wipe σ vs) H2 fun σ2 H3 => wipe σ2 vs = wipe σ vs ∧ tt σ2 H3 fun b H4 =>
        if b = true then te σ2 H4 fun y H5 => ∃ acc, H5 D = some (.lst acc) ∧ acc.length < sizeLine ∧ Nx (upd H5 D (.lst (acc ++ [y]))) else Nx H4) := by
  refine lc_it w (fun i H => Ex H1 H ∧ H D = some (.lst (out i))) ⟨exn hD, by rw [upd_same, h0]⟩ (fun i H _ p => hG H p.1) (fun i x H H2 hi p y => ?_) (fun H p => hd H p.1 p.2)
  refine hs i x H H2 _ hi p.1 p.2 y (fun y2 H5 e eo => ⟨out i, e D _ p.2, hlen i hi, fun b o q => ?_, by rw [upd_same, eo]⟩) (fun H4 e eo => ⟨fun b o q => e b o (p.1 b o q), by rw [eo]; exact e D _ p.2⟩)
  rw [upd_ne (ne_of_none q hD)]
  exact e b o (p.1 b o q)
/-- .. whose list is known: vals -/
theorem lc_vals {J : It} {n : Nat} {G : Hp → Prop} {Y : Nat → Hp → V → Hp → Prop} (w : Walk J n G Y) {g : TG} {te : TE} {vs : List Nat} {σ : L2.St} {H1 : Hp} {D : Addr} {Qd : Hp → Prop} (vals : List V) (hn : vals.length = n) (hl : n ≤ 10000000) (hD : H1 D = none)
    (hG : ∀ H, Ex H1 H → G H)
    (hs : ∀ i x H H2 (R : VK), i < n → Ex H1 H → Y i H x H2 → (∀ y H5, Ex H H5 → vals[i]? = some y → R y H5) → g x (wipe σ vs) H2 fun σ2 H3 => wipe σ2 vs = wipe σ vs ∧ te σ2 H3 R)
    (hg : ∀ x σ2 H2 (R R2 : L2.St → Hp → Prop), (∀ σ3 H3, R σ3 H3 → R2 σ3 H3) → g x σ2 H2 R → g x σ2 H2 R2)
    (hd : ∀ H, Ex H1 H → H D = some (.lst vals) → Qd H) :
    ∃ W : Nat → Nat → Hp → Prop, (∃ m, W 0 m (upd H1 D (.lst []))) ∧ ∀ i m H, W i m H →
      (J.stop i H ∧ Qd H) ∨ (J.go i H ∧ ∃ Nx : Hp → Prop, (∀ H2, Nx H2 → ∃ m2, m2 < m ∧ W (i + 1) m2 H2) ∧ ∀ x H2, J.yld i H x H2 → g x (wipe σ vs) H2 fun σ2 H3 => wipe σ2 vs = wipe σ vs ∧ tYes σ2 H3 fun b H4 =>
        if b = true then te σ2 H4 fun y H5 => ∃ acc, H5 D = some (.lst acc) ∧ acc.length < sizeLine ∧ Nx (upd H5 D (.lst (acc ++ [y]))) else Nx H4) := by
  refine lc_out w (fun i => vals.take i) rfl hD (fun i hi => ?_) hG (fun i x H H2 Nx hi e hDi y kA _ => ?_) (fun H e h => hd H e ?_)
  · rw [List.length_take]
    exact Nat.lt_of_le_of_lt (Nat.le_trans (Nat.min_le_right _ _) (by rw [hn]; exact hl)) (by decide)
  · refine hg _ _ _ _ _ (fun σ3 H3 q => ⟨q.1, ?_⟩) (hs i x H H2 (fun y H5 => ∃ acc, H5 D = some (.lst acc) ∧ acc.length < sizeLine ∧ Nx (upd H5 D (.lst (acc ++ [y])))) hi e y fun y2 H5 e5 ev => kA y2 H5 e5 ?_)
    · exact q.2
    · rw [List.take_add_one, ev]
      rfl
  · rw [h, List.take_of_length_le (by rw [hn]; exact Nat.le_refl _)]
theorem gmono_name {i : Nat} : ∀ x σ2 H2 (R R2 : L2.St → Hp → Prop), (∀ σ3 H3, R σ3 H3 → R2 σ3 H3) → gName i x σ2 H2 R → gName i x σ2 H2 R2 := fun _ _ _ _ _ h q => h _ _ q
theorem gmono_nil : ∀ vs σ2 H2 (R R2 : L2.St → Hp → Prop), (∀ σ3 H3, R σ3 H3 → R2 σ3 H3) → gNil vs σ2 H2 R → gNil vs σ2 H2 R2 := fun _ _ _ _ _ h q => ⟨q.1, h _ _ q.2⟩
theorem gmono_cons {t : TG} {u : TGs} (ht : ∀ x σ2 H2 (R R2 : L2.St → Hp → Prop), (∀ σ3 H3, R σ3 H3 → R2 σ3 H3) → t x σ2 H2 R → t x σ2 H2 R2) (hu : ∀ x σ2 H2 (R R2 : L2.St → Hp → Prop), (∀ σ3 H3, R σ3 H3 → R2 σ3 H3) → u x σ2 H2 R → u x σ2 H2 R2) :
    ∀ vs σ2 H2 (R R2 : L2.St → Hp → Prop), (∀ σ3 H3, R σ3 H3 → R2 σ3 H3) → gCons t u vs σ2 H2 R → gCons t u vs σ2 H2 R2 := fun vs σ2 H2 R R2 h q => by
  obtain ⟨v, r, e, q⟩ := q
  exact ⟨v, r, e, ht _ _ _ _ _ (fun σ3 H3 z => hu _ _ _ _ _ h z) q⟩
theorem gmono_tup {K : PySem.W.Frag} {n : Nat} {t : TGs} (ht : ∀ x σ2 H2 (R R2 : L2.St → Hp → Prop), (∀ σ3 H3, R σ3 H3 → R2 σ3 H3) → t x σ2 H2 R → t x σ2 H2 R2) :
    ∀ v σ2 H2 (R R2 : L2.St → Hp → Prop), (∀ σ3 H3, R σ3 H3 → R2 σ3 H3) → gTup K n t v σ2 H2 R → gTup K n t v σ2 H2 R2 := fun v σ2 H2 R R2 h q => by
  obtain ⟨a, xs, e, h1, h2, q⟩ := q
  exact ⟨a, xs, e, h1, h2, ht _ _ _ _ _ h q⟩
/-! ### a list or a tuple walked -/
def ItS (K : PySem.W.Frag) (p : Bool × Addr) : It := if p.1 = true then Itt K p.2 else Itl K p.2
def iSeq (K : PySem.W.Frag) (tl : TE) : TI := fun σ H R => tl σ H fun x H1 => ∃ p : Bool × Addr, x = .ref p.2 ∧ (∃ xs, CZ.SqK K H1 p xs) ∧ R (ItS K p) H1
theorem pi_seq {X : Cx} {tg l : Expr} {tl : TE} (hl : PE X l tl) : PI X tg l (iSeq X.K tl) := by
  refine ⟨fun pins s σ H R I h => ?_⟩
  refine thn (hl.run pins s σ H _ I h) fun v s1 ⟨x, H1, I1, r1, q1⟩ => ?_
  obtain ⟨⟨b, a⟩, ex, ⟨xs, hq⟩, q⟩ := q1
  subst ex
  cases r1
  obtain ⟨its, rv, g, lt⟩ := CZ.sq_seq I1 hq
  have fp : ∀ c ∈ [s1.heap.objs.size], FpOk X pins H1 c := fun c hc => by
    have e : c = s1.heap.objs.size := by simpa using hc
    rw [e]
    exact I1.fpOk (Nat.le_refl _) (I1.hok.fresh (Nat.le_refl _))
  refine (CZ.begins_of (b, a) its).iter _ _ _ _ s1 _ g ?_
  have I2 : Inv X pins σ H1 { s1 with heap := s1.heap.push (CZ.itO (b, a)) } := I1.kept (t' := s1.toks) fun c o e => Heap.get?_push_of_some _ e
  cases b
  · exact ⟨_, [s1.heap.objs.size], _, _, H1, rfl, I2, turn_list a _, ⟨_, Heap.get?_push_size _ rfl, rfl, rfl⟩, fp, q⟩
  · exact ⟨_, [s1.heap.objs.size], _, _, H1, rfl, I2, turn_tuple a _, ⟨_, Heap.get?_push_size _ rfl, rfl, rfl⟩, fp, q⟩
theorem walk_seq {K : PySem.W.Frag} {p : Bool × Addr} {xs : List V} : Walk (ItS K p) xs.length (fun H => CZ.SqK K H p xs) (YAt xs) := by
  obtain ⟨b, a⟩ := p
  cases b
  · exact walk_list
  · exact walk_tup
theorem itt {c : Bool} {A B : Prop} (h : c = true) (a : A) : if c = true then A else B := by rw [if_pos h]; exact a
theorem itf {c : Bool} {A B : Prop} (h : c = false) (b : B) : if c = true then A else B := by rw [h, if_neg Bool.false_ne_true]; exact b
theorem map_get {α : Type} {f : α → V} {l : List α} {i : Nat} {x : V} (h : (l.map f)[i]? = some x) : ∃ n, l[i]? = some n ∧ x = f n := by
  rw [List.getElem?_map] at h
  cases e : l[i]? with
  | none => rw [e] at h; cases h
  | some n => rw [e] at h; exact ⟨n, rfl, (Option.some.inj h).symm⟩
end CS

namespace CL
open PySem PySem.Spec PyProof.Rows L2
/-! ### set(l) of a list of ints -/
section
variable {pg : Program} {wo : World} {Ar : Around} {Ee : Value → Shared → Prop} {t : Shared}
set_option maxRecDepth 100000 in
set_option maxHeartbeats 3200000 in
theorem set_of_list {l : Addr} {its : Array Value} (ns : List Int) {Qe : Value → Shared → Prop} (calm : Ar.handled = none) (isl : t.heap.IsList l its) (intsA : IntsAre its.toList ns) (few : ns.length + 1 < scanBound)
    (goal : ∀ (hN : Heap) (k c : Nat), SetR wo hN t.heap.objs.size (fun j => decide (j ∈ ns)) c → c ≤ ns.length → (∀ b ob, t.heap.get? b = some ob → hN.get? b = some ob) → Qe (.ref t.heap.objs.size) { t with heap := hN, toks := k }) :
    wpAny (model pg wo) Ar (call (.type "set") [.ref l]) Qe Ee t := by
  have len : its.size = ns.length := by
    have z := IntsAre.length intsA
    rw [Array.length_toList] at z
    exact z
  obtain ⟨cc, tail, mro⟩ := PySem.F.called_set.mro
  have made := PySem.F.called_set.made
  have sub := PySem.F.called_set.sub
  refine wpAny_call (codeAny_of_tree ?_)
  show wpAny _ _ (callAny (.type "set") _) _ _ _
  refine wpAny_pure ⟨Code.quiet_builtin _ (by decide +kernel), codeAny_builtin PySem.F.entry_type_call ?_⟩
  rw [Around.under_plain (weight_type_call_type "set" [.ref l] []) rfl]
  have noType := PySem.F.called_set.notType
  have creates := PySem.F.called_set.canCreate
  have checked := PySem.F.typeCall_set_1 (.ref l)
  repeat (any_goals (first | assumption | wp_step))
  refine codeAny_mono (code_set_led1 (.ref l) (E := Ee) (Q₁ := fun ob t1 => ob = .ref t.heap.objs.size ∧ t1 = { t with heap := t.heap.push { cls := .type "set", dict := none, data := .set #[] 0 (.fresh 0 0 (!wo.params.followText "set-order")) } }) ⟨rfl, rfl⟩) fun r t1 hr => ?_
  cases r with
  | error e => exact hr
  | ok fl =>
    cases fl with
    | ret ob =>
      obtain ⟨rfl, rfl⟩ := hr
      have hS : (t.heap.push { cls := .type "set", dict := none, data := .set #[] 0 (.fresh 0 0 (!wo.params.followText "set-order")) }).get? t.heap.objs.size = some { cls := .type "set", dict := none, data := .set #[] 0 (.fresh 0 0 (!wo.params.followText "set-order")) } := Heap.get?_push_size _ rfl
      have tS : Shared.TypeIs { t with heap := t.heap.push { cls := .type "set", dict := none, data := .set #[] 0 (.fresh 0 0 (!wo.params.followText "set-order")) } } (.ref t.heap.objs.size) "set" := ⟨_, hS, rfl⟩
      have ini := PySem.F.called_set.init.lookup
      have bnd := PySem.F.called_set.init.bind (.ref t.heap.objs.size)
      repeat (any_goals (first | assumption | wp_step))
      refine codeAny_mono (codeAny_call_builtin (R := wants (fun r t2 => r = .none ∧ ∃ hN k c, t2 = { t with heap := hN, toks := k } ∧ SetR wo hN t.heap.objs.size (fun j => decide (j ∈ ns)) c ∧ c ≤ ns.length ∧
          (∀ b ob, t.heap.get? b = some ob → hN.get? b = some ob)) Ee) PySem.F.called_set.init.plain PySem.F.entry_set_init (check_set_init_1 tS ?_)) fun r2 t2 hr2 => ?_
      · obtain ⟨ol, hol, hcl, nl, hdl⟩ := id isl
        obtain ⟨ocls, odict, odata, oslots⟩ := ol
        simp only at hcl hdl
        subst hcl
        subst hdl
        have hol2 : (t.heap.push { cls := .type "set", dict := none, data := .set #[] 0 (.fresh 0 0 (!wo.params.followText "set-order")) }).get? l = some { cls := .type "list", dict := odict, data := .seq its nl, slots := oslots } := Heap.get?_push_of_some _ hol
        have s1 := PySem.F.sub_list_set
        have s2 := PySem.F.sub_list_frozenset
        have nd : (Value.type "list" == Value.type "dict") = false := by decide
        have isl2 : (t.heap.push { cls := .type "set", dict := none, data := .set #[] 0 (.fresh 0 0 (!wo.params.followText "set-order")) }).IsList l its := ⟨_, hol2, rfl, nl, rfl⟩
        unfold Builtin.«set.__init__» noKeywords Builtin.Frozenset.updateFrom
        generalize hPI : pyIter = PIt
        wp_walk
        subst hPI
        refine wpAny_pyIter_list isl2 ?_
        refine wpAny_bind (wpAny_runValue ?_)
        have lS : l < t.heap.objs.size := Heap.lt_size hol
        have calm3 : Ar.in1.in1.in1.handled = none := by simp [calm]
        have neI : l ≠ (t.heap.push { cls := .type "set", dict := none, data := .set #[] 0 (.fresh 0 0 (!wo.params.followText "set-order")) }).objs.size := by
          rw [Heap.size_push]
          exact Nat.ne_of_lt (Nat.lt_succ_of_lt lS)
        have notF : t.heap.objs.size ∉ [(t.heap.push { cls := .type "set", dict := none, data := .set #[] 0 (.fresh 0 0 (!wo.params.followText "set-order")) }).objs.size, l] := by
          rw [Heap.size_push]
          simp only [List.mem_cons, List.not_mem_nil, or_false, not_or]
          exact ⟨Nat.ne_of_lt (Nat.lt_succ_self _), Nat.ne_of_gt lS⟩
        have vals : ∀ (i : Nat) (v : Value), its[i]? = some v → ∃ k u, ns[i]? = some k ∧ v = .int k u := fun i v hv => by
          have hi : i < ns.length := by
            rw [← len]
            exact (Array.getElem?_eq_some_iff.mp hv).1
          obtain ⟨u, e⟩ := PyProof.Rows.IntsAre.int_at intsA i v (by rw [Array.getElem?_toList]; exact hv)
          refine ⟨ns[i], u, List.getElem?_eq_getElem hi, ?_⟩
          rw [e, List.getD_eq_getElem?_getD, List.getElem?_eq_getElem hi] <;> rfl
        refine set_update_ints ((Walks.list calm3 _ l neI its).toS) t.heap.objs.size notF ns len few vals (its.size - 0) 0 _ (by omega) (Nat.zero_le _) ⟨⟨_, Heap.get?_push_size _ rfl, rfl, rfl⟩, (isl2.push _)⟩ ?first ?last
        case first =>
          exact ⟨0, Nat.le_refl 0, setR_new_at (Heap.get?_push_of_some _ hS)⟩
        case last =>
          intro t3 c3 mv hc3 hS3
          obtain ⟨hN, g3, d3, k3, os3⟩ := t3
          obtain rfl : g3 = t.gens := mv.gens
          obtain rfl : d3 = t.drawn := mv.drawn
          obtain rfl : os3 = t.os := mv.os
          show wpAny _ _ _ _ _ _
          refine wpAny_pure ?_
          show wpAny _ _ (ret Value.none) _ _ _
          rw [len] at hc3
          refine wpAny_pure ⟨rfl, hN, k3, c3, rfl, hS3, hc3, fun b ob e => ?_⟩
          have b0 : b < t.heap.objs.size := Heap.lt_size e
          have b2 : b ≠ (t.heap.push { cls := .type "set", dict := none, data := .set #[] 0 (.fresh 0 0 (!wo.params.followText "set-order")) }).objs.size := by
            rw [Heap.size_push]
            exact Nat.ne_of_lt (Nat.lt_succ_of_lt b0)
          exact mv.heap b ob (by simp only [List.mem_cons, List.not_mem_nil, or_false, not_or]; exact ⟨Nat.ne_of_lt b0, b2⟩) (Heap.get?_push_of_some _ (Heap.get?_push_of_some _ e))
      · cases r2 with
        | error e => exact hr2
        | ok fl2 =>
          cases fl2 with
          | ret r =>
            obtain ⟨rfl, hN, k, c2, rfl, hS2, hc2, hk2⟩ := hr2
            repeat (any_goals (first | assumption | wp_step))
            exact goal _ _ _ hS2 hc2 hk2
          | _ => exact hr2.elim
    | _ => exact hr.elim
end
/-- set(l), l a list of ints -/
def rSetI (K : PySem.W.Frag) (w : World) : List V → Hp → VK → Prop := fun vs H Q => ∃ (a : Addr) (ns : List Int), vs = [V.ref a] ∧ SqL K H a (ns.map V.int) ∧ ns.length + 1 < scanBound ∧ ∀ p c, H p = none → c ≤ ns.length → Q (.ref p) (upd H p (SetO w p (fun j => decide (j ∈ ns)) c))
theorem call_setI {X : Cx} (hc : X.calm = true) : CallR X (.type "set") (rSetI X.K X.w) := by
  intro pins s σ H vs us Q I r h
  obtain ⟨a, ns, rfl, hl, few, q⟩ := h
  rw [Vals.ref1 r]
  obtain ⟨its, rv, pl, _⟩ := I.list hl
  refine set_of_list ns (I.ok.hd hc) pl.isList (by rw [List.toList_toArray]; exact intsAre_of rv) few fun hN k c new hcl keep => ?_
  exact ⟨.ref _, upd H s.heap.objs.size (SetO X.w s.heap.objs.size (fun j => decide (j ∈ ns)) c), I.laid (t' := k) keep (Nat.le_refl _) (setO_new new), rfl, q _ c (I.hok.fresh (Nat.le_refl _)) hcl⟩
end CL

namespace CS
open PySem PySem.Spec PyProof.Rows L2
def top (i : Nat) : Stmt := PySem.Challenge.pw_calledseats_k02_orders_and_halves.main.body.getD i (.Pass ⟨0, 0, 0, 0⟩)
abbrev s_wall : Stmt := top 0
abbrev N_wall : List Str := ["k"]
theorem sc_wall : FnScope N_wall ["k"] (defScope s_wall) := ⟨rfl, rfl, rfl, by decide +kernel, rfl, by decide +kernel, by decide +kernel⟩
abbrev s_is_integer : Stmt := top 6
abbrev N_is_integer : List Str := ["value"]
theorem sc_is_integer : FnScope N_is_integer ["value"] (defScope s_is_integer) := ⟨rfl, rfl, rfl, by decide +kernel, rfl, by decide +kernel, by decide +kernel⟩
abbrev s_is_at_least : Stmt := top 7
abbrev N_is_at_least : List Str := ["value", "low"]
theorem sc_is_at_least : FnScope N_is_at_least ["value", "low"] (defScope s_is_at_least) := ⟨rfl, rfl, rfl, by decide +kernel, rfl, by decide +kernel, by decide +kernel⟩
abbrev s_is_between : Stmt := top 8
abbrev N_is_between : List Str := ["value", "low", "high"]
theorem sc_is_between : FnScope N_is_between ["value", "low", "high"] (defScope s_is_between) := ⟨rfl, rfl, rfl, by decide +kernel, rfl, by decide +kernel, by decide +kernel⟩
abbrev s_greatest_common_divisor : Stmt := top 9
abbrev N_greatest_common_divisor : List Str := ["first", "second"]
theorem sc_greatest_common_divisor : FnScope N_greatest_common_divisor ["first", "second"] (defScope s_greatest_common_divisor) := ⟨rfl, rfl, rfl, by decide +kernel, rfl, by decide +kernel, by decide +kernel⟩
abbrev s_Table_init : Stmt := inClass (top 12) 0
abbrev N_Table_init : List Str := ["self", "rings", "size"]
theorem sc_Table_init : FnScope N_Table_init ["self", "rings"] (defScope s_Table_init) := ⟨rfl, rfl, rfl, by decide +kernel, rfl, by decide +kernel, by decide +kernel⟩
abbrev s_Table_sizes : Stmt := inClass (top 12) 1
abbrev N_Table_sizes : List Str := ["self"]
theorem sc_Table_sizes : FnScope N_Table_sizes ["self"] (defScope s_Table_sizes) := ⟨rfl, rfl, rfl, by decide +kernel, rfl, by decide +kernel, by decide +kernel⟩
abbrev s_Table_count : Stmt := inClass (top 12) 2
abbrev N_Table_count : List Str := ["self", "product", "size"]
theorem sc_Table_count : FnScope N_Table_count ["self"] (defScope s_Table_count) := ⟨rfl, rfl, rfl, by decide +kernel, rfl, by decide +kernel, by decide +kernel⟩
abbrev s_Table_is_seat : Stmt := inClass (top 12) 3
abbrev N_Table_is_seat : List Str := ["self", "value", "place", "size"]
theorem sc_Table_is_seat : FnScope N_Table_is_seat ["self", "value"] (defScope s_Table_is_seat) := ⟨rfl, rfl, rfl, by decide +kernel, rfl, by decide +kernel, by decide +kernel⟩
abbrev s_Table_is_call : Stmt := inClass (top 12) 4
abbrev N_Table_is_call : List Str := ["self", "value"]
theorem sc_Table_is_call : FnScope N_Table_is_call ["self", "value"] (defScope s_Table_is_call) := ⟨rfl, rfl, rfl, by decide +kernel, rfl, by decide +kernel, by decide +kernel⟩
abbrev s_Table_shifted : Stmt := inClass (top 12) 5
abbrev N_Table_shifted : List Str := ["self", "seat", "call", "factor"]
theorem sc_Table_shifted : FnScope N_Table_shifted ["self", "seat", "call", "factor"] (defScope s_Table_shifted) := ⟨rfl, rfl, rfl, by decide +kernel, rfl, by decide +kernel, by decide +kernel⟩
abbrev s_Table_moves : Stmt := inClass (top 12) 6
abbrev N_Table_moves : List Str := ["self", "seat", "call"]
theorem sc_Table_moves : FnScope N_Table_moves ["self", "seat", "call"] (defScope s_Table_moves) := ⟨rfl, rfl, rfl, by decide +kernel, rfl, by decide +kernel, by decide +kernel⟩
abbrev s_Table_step : Stmt := inClass (top 12) 7
abbrev N_Table_step : List Str := ["self", "seat", "call", "direction"]
theorem sc_Table_step : FnScope N_Table_step ["self", "seat", "call", "direction"] (defScope s_Table_step) := ⟨rfl, rfl, rfl, by decide +kernel, rfl, by decide +kernel, by decide +kernel⟩
abbrev s_Table_order : Stmt := inClass (top 12) 8
abbrev N_Table_order : List Str := ["self", "seat", "least", "place", "size", "period"]
theorem sc_Table_order : FnScope N_Table_order ["self", "seat"] (defScope s_Table_order) := ⟨rfl, rfl, rfl, by decide +kernel, rfl, by decide +kernel, by decide +kernel⟩
abbrev s_Table_halves : Stmt := inClass (top 12) 9
abbrev N_Table_halves : List Str := ["self", "seat", "found", "place", "size", "start", "half"]
theorem sc_Table_halves : FnScope N_Table_halves ["self", "seat"] (defScope s_Table_halves) := ⟨rfl, rfl, rfl, by decide +kernel, rfl, by decide +kernel, by decide +kernel⟩
abbrev s_half_places : Stmt := top 13
abbrev N_half_places : List Str := ["place", "size"]
theorem sc_half_places : FnScope N_half_places ["place", "size"] (defScope s_half_places) := ⟨rfl, rfl, rfl, by decide +kernel, rfl, by decide +kernel, by decide +kernel⟩
abbrev s_require_seat : Stmt := top 14
abbrev N_require_seat : List Str := ["table", "seat"]
theorem sc_require_seat : FnScope N_require_seat ["table", "seat"] (defScope s_require_seat) := ⟨rfl, rfl, rfl, by decide +kernel, rfl, by decide +kernel, by decide +kernel⟩
abbrev s_law_mixed : Stmt := top 16
abbrev N_law_mixed : List Str := ["_law_cell", "_law_draw", "_law_number"]
theorem sc_law_mixed : FnScope N_law_mixed ["_law_cell", "_law_draw"] (defScope s_law_mixed) := ⟨rfl, rfl, rfl, by decide +kernel, rfl, by decide +kernel, by decide +kernel⟩
abbrev s_law_source : Stmt := top 17
abbrev N_law_source : List Str := ["_law_cell"]
theorem sc_law_source : FnScope N_law_source ["_law_cell"] (defScope s_law_source) := ⟨rfl, rfl, rfl, by decide +kernel, rfl, by decide +kernel, by decide +kernel⟩
abbrev s_law_take : Stmt := top 18
abbrev N_law_take : List Str := ["_law_source_here", "_law_count", "_law_drawn"]
theorem sc_law_take : FnScope N_law_take ["_law_source_here", "_law_count"] (defScope s_law_take) := ⟨rfl, rfl, rfl, by decide +kernel, rfl, by decide +kernel, by decide +kernel⟩
abbrev s_law_big : Stmt := top 19
abbrev N_law_big : List Str := ["_law_source_here", "_law_found", "_law_k"]
theorem sc_law_big : FnScope N_law_big ["_law_source_here"] (defScope s_law_big) := ⟨rfl, rfl, rfl, by decide +kernel, rfl, by decide +kernel, by decide +kernel⟩
abbrev s_law_rings : Stmt := top 20
abbrev N_law_rings : List Str := ["_law_source_here", "_law_small", "_law_drawn", "_law_k", "_law_pick"]
theorem sc_law_rings : FnScope N_law_rings ["_law_source_here"] (defScope s_law_rings) := ⟨rfl, rfl, rfl, by decide +kernel, rfl, by decide +kernel, by decide +kernel⟩
abbrev s_law_seat : Stmt := top 21
abbrev N_law_seat : List Str := ["_law_source_here", "_law_sizes", "_law_size"]
theorem sc_law_seat : FnScope N_law_seat ["_law_source_here", "_law_sizes"] (defScope s_law_seat) := ⟨rfl, rfl, rfl, by decide +kernel, rfl, by decide +kernel, by decide +kernel⟩
abbrev s_law_gcd : Stmt := top 23
abbrev N_law_gcd : List Str := ["_law_first", "_law_second"]
theorem sc_law_gcd : FnScope N_law_gcd ["_law_first", "_law_second"] (defScope s_law_gcd) := ⟨rfl, rfl, rfl, by decide +kernel, rfl, by decide +kernel, by decide +kernel⟩
abbrev s_law_all : Stmt := top 24
abbrev N_law_all : List Str := ["_law_sizes", "_law_found", "_law_size", "_law_longer", "_law_start", "_law_place"]
theorem sc_law_all : FnScope N_law_all ["_law_sizes"] (defScope s_law_all) := ⟨rfl, rfl, rfl, by decide +kernel, rfl, by decide +kernel, by decide +kernel⟩
abbrev s_law_sum : Stmt := top 25
abbrev N_law_sum : List Str := ["_law_first", "_law_second", "_law_sizes", "_law_a", "_law_b", "_law_size"]
theorem sc_law_sum : FnScope N_law_sum ["_law_first", "_law_second", "_law_sizes"] (defScope s_law_sum) := ⟨rfl, rfl, rfl, by decide +kernel, rfl, by decide +kernel, by decide +kernel⟩
abbrev s_law_period : Stmt := top 26
abbrev N_law_period : List Str := ["_law_origin", "_law_sizes", "_law_least", "_law_place", "_law_size", "_law_period_here"]
theorem sc_law_period : FnScope N_law_period ["_law_origin", "_law_sizes"] (defScope s_law_period) := ⟨rfl, rfl, rfl, by decide +kernel, rfl, by decide +kernel, by decide +kernel⟩
abbrev s_law_halves : Stmt := top 27
abbrev N_law_halves : List Str := ["_law_origin", "_law_sizes", "_law_found", "_law_place", "_law_size", "_law_some", "_law_longer", "_law_start", "_law_half"]
theorem sc_law_halves : FnScope N_law_halves ["_law_origin", "_law_sizes"] (defScope s_law_halves) := ⟨rfl, rfl, rfl, by decide +kernel, rfl, by decide +kernel, by decide +kernel⟩
abbrev s_law_check_small : Stmt := top 28
abbrev N_law_check_small : List Str := ["_law_source_here", "_law_sizes", "_law_board", "_law_every", "_law_zero", "_law_origin", "_law_total", "_law_copies", "_law_half"]
theorem sc_law_check_small : FnScope N_law_check_small ["_law_source_here"] (defScope s_law_check_small) := ⟨rfl, rfl, rfl, by decide +kernel, rfl, by decide +kernel, by decide +kernel⟩
abbrev s_law_check : Stmt := top 29
abbrev N_law_check : List Str := ["_law_source_here", "_law_sizes", "_law_board", "_law_turn", "_law_origin", "_law_middle", "_law_twice", "_law_found", "_law_place"]
theorem sc_law_check : FnScope N_law_check ["_law_source_here"] (defScope s_law_check) := ⟨rfl, rfl, rfl, by decide +kernel, rfl, by decide +kernel, by decide +kernel⟩
abbrev s_law : Stmt := top 30
abbrev N_law : List Str := ["_law_script", "_law_cell", "_law_source_here"]
theorem sc_law : FnScope N_law ["_law_script"] (defScope s_law) := ⟨rfl, rfl, rfl, by decide +kernel, rfl, by decide +kernel, by decide +kernel⟩
/-- what the top has written -/
structure TX (K : PySem.W.Frag) (mg : Str → Option Value) where
  f_wall : Addr
  fd_wall : FuncData
  F_wall : Fun K "_wall" "_wall" s_wall f_wall fd_wall
  b_wall : Binds K fd_wall ["k"] []
  m_wall : mg "_wall" = some (.ref f_wall)
  f_is_integer : Addr
  fd_is_integer : FuncData
  F_is_integer : Fun K "is_integer" "is_integer" s_is_integer f_is_integer fd_is_integer
  b_is_integer : Binds K fd_is_integer ["value"] []
  m_is_integer : mg "is_integer" = some (.ref f_is_integer)
  f_is_at_least : Addr
  fd_is_at_least : FuncData
  F_is_at_least : Fun K "is_at_least" "is_at_least" s_is_at_least f_is_at_least fd_is_at_least
  b_is_at_least : Binds K fd_is_at_least ["value", "low"] []
  m_is_at_least : mg "is_at_least" = some (.ref f_is_at_least)
  f_is_between : Addr
  fd_is_between : FuncData
  F_is_between : Fun K "is_between" "is_between" s_is_between f_is_between fd_is_between
  b_is_between : Binds K fd_is_between ["value", "low", "high"] []
  m_is_between : mg "is_between" = some (.ref f_is_between)
  f_greatest_common_divisor : Addr
  fd_greatest_common_divisor : FuncData
  F_greatest_common_divisor : Fun K "greatest_common_divisor" "greatest_common_divisor" s_greatest_common_divisor f_greatest_common_divisor fd_greatest_common_divisor
  b_greatest_common_divisor : Binds K fd_greatest_common_divisor ["first", "second"] []
  m_greatest_common_divisor : mg "greatest_common_divisor" = some (.ref f_greatest_common_divisor)
  f_Table_init : Addr
  fd_Table_init : FuncData
  F_Table_init : Fun K "__init__" "Table.__init__" s_Table_init f_Table_init fd_Table_init
  b_Table_init : Binds K fd_Table_init ["self", "rings"] []
  f_Table_sizes : Addr
  fd_Table_sizes : FuncData
  F_Table_sizes : Fun K "sizes" "Table.sizes" s_Table_sizes f_Table_sizes fd_Table_sizes
  b_Table_sizes : Binds K fd_Table_sizes ["self"] []
  f_Table_count : Addr
  fd_Table_count : FuncData
  F_Table_count : Fun K "count" "Table.count" s_Table_count f_Table_count fd_Table_count
  b_Table_count : Binds K fd_Table_count ["self"] []
  f_Table_is_seat : Addr
  fd_Table_is_seat : FuncData
  F_Table_is_seat : Fun K "is_seat" "Table.is_seat" s_Table_is_seat f_Table_is_seat fd_Table_is_seat
  b_Table_is_seat : Binds K fd_Table_is_seat ["self", "value"] []
  f_Table_is_call : Addr
  fd_Table_is_call : FuncData
  F_Table_is_call : Fun K "is_call" "Table.is_call" s_Table_is_call f_Table_is_call fd_Table_is_call
  b_Table_is_call : Binds K fd_Table_is_call ["self", "value"] []
  f_Table_shifted : Addr
  fd_Table_shifted : FuncData
  F_Table_shifted : Fun K "shifted" "Table.shifted" s_Table_shifted f_Table_shifted fd_Table_shifted
  b_Table_shifted : Binds K fd_Table_shifted ["self", "seat", "call", "factor"] []
  f_Table_moves : Addr
  fd_Table_moves : FuncData
  F_Table_moves : Fun K "moves" "Table.moves" s_Table_moves f_Table_moves fd_Table_moves
  b_Table_moves : Binds K fd_Table_moves ["self", "seat", "call"] []
  f_Table_step : Addr
  fd_Table_step : FuncData
  F_Table_step : Fun K "step" "Table.step" s_Table_step f_Table_step fd_Table_step
  b_Table_step : Binds K fd_Table_step ["self", "seat", "call", "direction"] []
  f_Table_order : Addr
  fd_Table_order : FuncData
  F_Table_order : Fun K "order" "Table.order" s_Table_order f_Table_order fd_Table_order
  b_Table_order : Binds K fd_Table_order ["self", "seat"] []
  f_Table_halves : Addr
  fd_Table_halves : FuncData
  F_Table_halves : Fun K "halves" "Table.halves" s_Table_halves f_Table_halves fd_Table_halves
  b_Table_halves : Binds K fd_Table_halves ["self", "seat"] []
  f_half_places : Addr
  fd_half_places : FuncData
  F_half_places : Fun K "half_places" "half_places" s_half_places f_half_places fd_half_places
  b_half_places : Binds K fd_half_places ["place", "size"] []
  m_half_places : mg "half_places" = some (.ref f_half_places)
  f_require_seat : Addr
  fd_require_seat : FuncData
  F_require_seat : Fun K "require_seat" "require_seat" s_require_seat f_require_seat fd_require_seat
  b_require_seat : Binds K fd_require_seat ["table", "seat"] []
  m_require_seat : mg "require_seat" = some (.ref f_require_seat)
  f_law_mixed : Addr
  fd_law_mixed : FuncData
  F_law_mixed : Fun K "_law_mixed" "_law_mixed" s_law_mixed f_law_mixed fd_law_mixed
  b_law_mixed : Binds K fd_law_mixed ["_law_cell", "_law_draw"] []
  m_law_mixed : mg "_law_mixed" = some (.ref f_law_mixed)
  f_law_source : Addr
  fd_law_source : FuncData
  F_law_source : Fun K "_law_source" "_law_source" s_law_source f_law_source fd_law_source
  b_law_source : Binds K fd_law_source ["_law_cell"] []
  m_law_source : mg "_law_source" = some (.ref f_law_source)
  f_law_take : Addr
  fd_law_take : FuncData
  F_law_take : Fun K "_law_take" "_law_take" s_law_take f_law_take fd_law_take
  b_law_take : Binds K fd_law_take ["_law_source_here", "_law_count"] []
  m_law_take : mg "_law_take" = some (.ref f_law_take)
  f_law_big : Addr
  fd_law_big : FuncData
  F_law_big : Fun K "_law_big" "_law_big" s_law_big f_law_big fd_law_big
  b_law_big : Binds K fd_law_big ["_law_source_here"] []
  m_law_big : mg "_law_big" = some (.ref f_law_big)
  f_law_rings : Addr
  fd_law_rings : FuncData
  F_law_rings : Fun K "_law_rings" "_law_rings" s_law_rings f_law_rings fd_law_rings
  b_law_rings : Binds K fd_law_rings ["_law_source_here"] []
  m_law_rings : mg "_law_rings" = some (.ref f_law_rings)
  f_law_seat : Addr
  fd_law_seat : FuncData
  F_law_seat : Fun K "_law_seat" "_law_seat" s_law_seat f_law_seat fd_law_seat
  b_law_seat : Binds K fd_law_seat ["_law_source_here", "_law_sizes"] []
  m_law_seat : mg "_law_seat" = some (.ref f_law_seat)
  f_law_gcd : Addr
  fd_law_gcd : FuncData
  F_law_gcd : Fun K "_law_gcd" "_law_gcd" s_law_gcd f_law_gcd fd_law_gcd
  b_law_gcd : Binds K fd_law_gcd ["_law_first", "_law_second"] []
  m_law_gcd : mg "_law_gcd" = some (.ref f_law_gcd)
  f_law_all : Addr
  fd_law_all : FuncData
  F_law_all : Fun K "_law_all" "_law_all" s_law_all f_law_all fd_law_all
  b_law_all : Binds K fd_law_all ["_law_sizes"] []
  m_law_all : mg "_law_all" = some (.ref f_law_all)
  f_law_sum : Addr
  fd_law_sum : FuncData
  F_law_sum : Fun K "_law_sum" "_law_sum" s_law_sum f_law_sum fd_law_sum
  b_law_sum : Binds K fd_law_sum ["_law_first", "_law_second", "_law_sizes"] []
  m_law_sum : mg "_law_sum" = some (.ref f_law_sum)
  f_law_period : Addr
  fd_law_period : FuncData
  F_law_period : Fun K "_law_period" "_law_period" s_law_period f_law_period fd_law_period
  b_law_period : Binds K fd_law_period ["_law_origin", "_law_sizes"] []
  m_law_period : mg "_law_period" = some (.ref f_law_period)
  f_law_halves : Addr
  fd_law_halves : FuncData
  F_law_halves : Fun K "_law_halves" "_law_halves" s_law_halves f_law_halves fd_law_halves
  b_law_halves : Binds K fd_law_halves ["_law_origin", "_law_sizes"] []
  m_law_halves : mg "_law_halves" = some (.ref f_law_halves)
  f_law_check_small : Addr
  fd_law_check_small : FuncData
  F_law_check_small : Fun K "_law_check_small" "_law_check_small" s_law_check_small f_law_check_small fd_law_check_small
  b_law_check_small : Binds K fd_law_check_small ["_law_source_here"] []
  m_law_check_small : mg "_law_check_small" = some (.ref f_law_check_small)
  f_law_check : Addr
  fd_law_check : FuncData
  F_law_check : Fun K "_law_check" "_law_check" s_law_check f_law_check fd_law_check
  b_law_check : Binds K fd_law_check ["_law_source_here"] []
  m_law_check : mg "_law_check" = some (.ref f_law_check)
  f_law : Addr
  fd_law : FuncData
  F_law : Fun K "law" "law" s_law f_law fd_law
  b_law : Binds K fd_law ["_law_script"] []
  m_law : mg "law" = some (.ref f_law)
  C_Table : Addr
  cl_Table : Cls K C_Table
  m_Table : mg "Table" = some (.ref C_Table)
  M_Table : Mk K C_Table f_Table_init
  me_Table_sizes : Meth K C_Table "sizes" f_Table_sizes
  me_Table_count : Meth K C_Table "count" f_Table_count
  me_Table_is_seat : Meth K C_Table "is_seat" f_Table_is_seat
  me_Table_is_call : Meth K C_Table "is_call" f_Table_is_call
  me_Table_shifted : Meth K C_Table "shifted" f_Table_shifted
  me_Table_moves : Meth K C_Table "moves" f_Table_moves
  me_Table_step : Meth K C_Table "step" f_Table_step
  me_Table_order : Meth K C_Table "order" f_Table_order
  me_Table_halves : Meth K C_Table "halves" f_Table_halves
  n_Table_rings : NoAttr K C_Table "rings"
  t_MAX_RINGS : Tok
  c_MAX_RINGS : mg "MAX_RINGS" = some (.int 4 t_MAX_RINGS)
  z_abs : mg "abs" = none
  z_all : mg "all" = none
  z_bool : mg "bool" = none
  z_int : mg "int" = none
  z_isinstance : mg "isinstance" = none
  z_len : mg "len" = none
  z_list : mg "list" = none
  z_min : mg "min" = none
  z_range : mg "range" = none
  z_set : mg "set" = none
  z_sorted : mg "sorted" = none
  z_tuple : mg "tuple" = none
  z_zip : mg "zip" = none
/-- not an int (a bool is none) -/
def NotI (K : PySem.W.Frag) (H : Hp) (x : V) : Prop := ∃ t b1 b2, TyX K H x t ∧ PySem.W.kitOne K t (.type "int") = some b1 ∧ PySem.W.kitOne K t (.type "bool") = some b2 ∧ (b1 && !b2) = false
/-- what x is, if an int -/
def IsI (K : PySem.W.Frag) (H : Hp) (x : V) : Option Int → Prop
  | some i => x = .int i
  | none => NotI K H x
def atLeast : Option Int → Int → Bool
  | some i, low => decide (low ≤ i)
  | none, _ => false
def between : Option Int → Int → Int → Bool
  | some i, low, high => decide (low ≤ i) && decide (i ≤ high)
  | none, _, _ => false

section
variable {P : Program} {w : World} {K : PySem.W.Frag} {mg : Str → Option Value} {base : Heap}
def sp_is_integer (K : PySem.W.Frag) : Sp := fun vs H Q _ => ∃ x o, vs = [x] ∧ IsI K H x o ∧ Q (.bl o.isSome) H
theorem ok_is_integer (T : TX K mg) : FnOk P w K mg base CX0 1 T.f_is_integer T.fd_is_integer ["value"] (sp_is_integer K) := by
  refine T.F_is_integer.ok sc_is_integer (fun vs H Q E h => ?_) (fun cdv A outer s H vs Q E hr h => ?_)
  · obtain ⟨x, o, rfl, _⟩ := h
    rfl
  · obtain ⟨x, o, rfl, hx, k⟩ := h
    refine ⟨_, (pss_one (ps_ret (pe_and (pe_callB call_isi (by rfl) T.z_isinstance (by decide +kernel) (pa_cons (pv 0) (pa_cons (pe_bltn (v := .ty "int") rfl T.z_int (by decide +kernel) rfl) pa_nil))) (pe_one (pe_not (pe_callB call_isi (by rfl) T.z_isinstance (by decide +kernel) (pa_cons (pv 0) (pa_cons (pe_bltn (v := .ty "bool") rfl T.z_bool (by decide +kernel) rfl) pa_nil)))))))), ?_⟩
    cases o with
    | some i =>
      cases hx
      exact ⟨_, rfl, _, _, _, _, true, rfl, .ty _, .base (.int i), kit_ty (by decide +kernel), _, rfl, _, rfl, _, _, _, _, false, rfl, .ty _, .base (.int i), kit_ty (by decide +kernel), _, rfl, k⟩
    | none =>
      obtain ⟨t, b1, b2, ht, h1, h2, hb⟩ := hx
      refine ⟨_, rfl, _, _, _, _, b1, rfl, .ty _, ht, h1, _, rfl, ?_⟩
      cases b1 with
      | false => exact k
      | true =>
        refine ⟨_, rfl, _, _, _, _, b2, rfl, .ty _, ht, h2, _, rfl, ?_⟩
        have e : (!b2) = false := hb
        rw [e]
        exact k
def sp_is_at_least (K : PySem.W.Frag) : Sp := fun vs H Q _ => ∃ x o low, vs = [x, .int low] ∧ IsI K H x o ∧ Q (.bl (atLeast o low)) H
theorem ok_is_at_least (T : TX K mg) : FnOk P w K mg base CX0 2 T.f_is_at_least T.fd_is_at_least ["value", "low"] (sp_is_at_least K) := by
  refine T.F_is_at_least.ok sc_is_at_least (fun vs H Q E h => ?_) (fun cdv A outer s H vs Q E hr h => ?_)
  · obtain ⟨x, o, low, rfl, _⟩ := h
    rfl
  · obtain ⟨x, o, low, rfl, hx, k⟩ := h
    refine ⟨_, (pss_one (ps_ret (pe_and (pe_call (ok_is_integer T) hr rfl T.m_is_integer T.F_is_integer.kp T.b_is_integer .nil pass0 (pa_cons (pv 0) pa_nil)) (pe_one (pe_cmpR op_ge (pv 0) (pv 1) (nomark _)))))), ?_⟩
    refine ⟨_, rfl, x, o, rfl, hx, _, rfl, ?_⟩
    cases o with
    | none => exact k
    | some i =>
      cases hx
      exact ⟨_, rfl, _, rfl, _, _, rfl, rfl, k⟩
def sp_is_between (K : PySem.W.Frag) : Sp := fun vs H Q _ => ∃ x o low high, vs = [x, .int low, .int high] ∧ IsI K H x o ∧ Q (.bl (between o low high)) H
theorem ok_is_between (T : TX K mg) : FnOk P w K mg base CX0 2 T.f_is_between T.fd_is_between ["value", "low", "high"] (sp_is_between K) := by
  refine T.F_is_between.ok sc_is_between (fun vs H Q E h => ?_) (fun cdv A outer s H vs Q E hr h => ?_)
  · obtain ⟨x, o, low, high, rfl, _⟩ := h
    rfl
  · obtain ⟨x, o, low, high, rfl, hx, k⟩ := h
    refine ⟨_, (pss_one (ps_ret (pe_and (pe_call (ok_is_integer T) hr rfl T.m_is_integer T.F_is_integer.kp T.b_is_integer .nil pass0 (pa_cons (pv 0) pa_nil)) (pe_one (pe_chain op_le op_le (pv 1) (pv 0) (pv 2)))))), ?_⟩
    refine ⟨_, rfl, x, o, rfl, hx, _, rfl, ?_⟩
    cases o with
    | none => exact k
    | some i =>
      cases hx
      refine ⟨_, rfl, _, rfl, _, _, rfl, rfl, _, rfl, ?_⟩
      refine ite2 (fun c => ?_) (fun c => ?_)
      · have c1 : low ≤ i := of_decide_eq_true c
        refine ⟨_, rfl, _, _, rfl, rfl, ?_⟩
        have e : between (some i) low high = decide (i ≤ high) := by show (decide (low ≤ i) && decide (i ≤ high)) = _; rw [c]; rfl
        rw [e] at k
        exact k
      · have e : between (some i) low high = false := by show (decide (low ≤ i) && decide (i ≤ high)) = _; rw [Bool.eq_false_iff.mpr c]; rfl
        rw [e] at k
        exact k
end

/-- a table of these sizes stands at a -/
def TabAt (C : Addr) (H : Hp) (a : Addr) (ns : List Int) : Prop := ∃ dx t, H a = some (.ins C dx [("rings", .ref t)]) ∧ H t = some (.tup (ns.map V.int))
theorem TabAt.mono {C : Addr} {H H2 : Hp} {a : Addr} {ns : List Int} (e : Ex H H2) (h : TabAt C H a ns) : TabAt C H2 a ns := by
  obtain ⟨dx, t, h1, h2⟩ := h
  exact ⟨dx, t, e _ _ h1, e _ _ h2⟩
/-- a tracked list (false) or tuple (true) -/
def SqH (H : Hp) (p : Bool × Addr) (xs : List V) : Prop := if p.1 = true then H p.2 = some (.tup xs) else H p.2 = some (.lst xs)
theorem SqH.sq {K : PySem.W.Frag} {H : Hp} {p : Bool × Addr} {xs : List V} (h : SqH H p xs) : CZ.SqK K H p xs := by
  obtain ⟨b, a⟩ := p
  cases b
  · exact SqL.of (show H a = some (.lst xs) from h)
  · exact SqT.of (show H a = some (.tup xs) from h)
theorem SqH.mono {H H2 : Hp} {p : Bool × Addr} {xs : List V} (e : Ex H H2) (h : SqH H p xs) : SqH H2 p xs := by
  obtain ⟨b, a⟩ := p
  cases b
  · exact e _ _ (show H a = some (.lst xs) from h)
  · exact e _ _ (show H a = some (.tup xs) from h)
theorem SqH.ty {K : PySem.W.Frag} {H : Hp} {p : Bool × Addr} {xs : List V} (h : SqH H p xs) : TyX K H (.ref p.2) (.type (if p.1 = true then "tuple" else "list")) := by
  obtain ⟨b, a⟩ := p
  cases b
  · exact .base (.lst (show H a = some (.lst xs) from h))
  · exact .base (.tup (show H a = some (.tup xs) from h))
/-- sizes of a table -/
structure SzOk (ns : List Int) : Prop where
  pos : ns ≠ []
  le : ns.length ≤ 4
  one : ∀ n ∈ ns, 1 ≤ n
theorem len_line {α : Type} {l : List α} (h : l.length ≤ 4) : l.length ≤ sizeLine := Nat.le_trans h (by decide)
theorem take_lt {α : Type} {l : List α} (h : l.length ≤ 1000) (i : Nat) : (l.take i).length < sizeLine := by
  rw [List.length_take]
  exact Nat.lt_of_le_of_lt (Nat.le_trans (Nat.min_le_right _ _) h) (by decide)
theorem take_more {α : Type} {l : List α} {i : Nat} {x : α} (h : l[i]? = some x) : l.take (i + 1) = l.take i ++ [x] := by
  rw [List.take_add_one, h]
  rfl
theorem kit_seq {K : PySem.W.Frag} (b : Bool) : PySem.W.kitAny K (.type (if b = true then "tuple" else "list")) [.type "list", .type "tuple"] = some true := by
  cases b
  · exact kitAny_cons (b := true) (kit_ty (by decide +kernel)) (fun h => nomatch h) (fun _ => rfl)
  · exact kitAny_cons (b := false) (kit_ty (by decide +kernel)) (fun _ => kitAny_cons (b := true) (kit_ty (by decide +kernel)) (fun h => nomatch h) (fun _ => rfl)) (fun h => nomatch h)
theorem sq_or {K : PySem.W.Frag} {H : Hp} {b : Bool} {a : Addr} {xs : List V} (h : SqH H (b, a) xs) : SqL K H a xs ∨ SqT K H a xs := by
  cases b
  · exact .inl (SqL.of (show H a = some (.lst xs) from h))
  · exact .inr (SqT.of (show H a = some (.tup xs) from h))
section
variable {P : Program} {w : World} {K : PySem.W.Frag} {mg : Str → Option Value} {base : Heap}
def sp_Table_init (C : Addr) : Sp := fun vs H Q _ => ∃ (p dx : Addr) (q : Bool × Addr) (ns : List Int), vs = [.ref p, .ref q.2] ∧ H p = some (.ins C dx []) ∧ SqH H q (ns.map V.int) ∧ SzOk ns ∧
  ∀ H2, (∀ c o, c ≠ p → H c = some o → H2 c = some o) → (∃ t, H2 p = some (.ins C dx [("rings", .ref t)]) ∧ H2 t = some (.tup (ns.map V.int))) → Q .non H2
theorem ok_Table_init (T : TX K mg) : FnOk P w K mg base CX0 3 T.f_Table_init T.fd_Table_init ["self", "rings"] (sp_Table_init T.C_Table) := by
  refine T.F_Table_init.ok sc_Table_init (fun vs H Q E h => ?_) (fun cdv A outer s H vs Q E hr h => ?_)
  · obtain ⟨p, dx, q, ns, rfl, _⟩ := h
    rfl
  · obtain ⟨p, dx, ⟨b, a⟩, ns, rfl, hp, hq, ok, k⟩ := h
    refine ⟨_, (pss_cons (ps_if (PW.pt (pw_or (pt_not (pt_val (pe_callB call_isiT (by rfl) T.z_isinstance (by decide +kernel) (pa_cons (pv 1) (pa_cons (pe_tup (pa_cons (pe_bltn (v := .ty "list") rfl T.z_list (by decide +kernel) rfl) (pa_cons (pe_bltn (v := .ty "tuple") rfl T.z_tuple (by decide +kernel) rfl) pa_nil))) pa_nil))))) (pw_or1 (pt_not (pt_chain op_le op_le pe_int (pe_callB call_len_seq (by rfl) T.z_len (by decide +kernel) (pa_cons (pv 1) pa_nil)) (pe_glob (v := .int 4) rfl T.c_MAX_RINGS ⟨_, rfl⟩)))))) pss_never pss_nil) (pss_cons (ps_if (pt_not (pt_val (pe_callB (cr_all rfl) (by rfl) T.z_all (by decide +kernel) (pa_cons (pe_lc (own := [("size", 2)]) (g := (gName 2)) rfl sc_Table_init.nd (pi_seq (pv 1)) (blkOk_by (N := N_Table_init) (sc := defScope s_Table_init) (by decide +kernel)) (fun _ _ _ _ _ => (pg_name (i := 2) sc_Table_init.nd rfl (Or.inl rfl))) (fun _ _ _ _ _ => pts_nil) (fun _ _ _ _ _ => (pe_call (ok_is_at_least T) hr rfl T.m_is_at_least T.F_is_at_least.kp T.b_is_at_least .nil pass0 (pa_cons (pv 2) (pa_cons pe_int pa_nil))))) pa_nil)))) pss_never pss_nil) (pss_one (ps_fld (pv 0) (pe_callTy call_tuple_of (by rfl) T.z_tuple (by decide +kernel) (pa_cons (pv 1) pa_nil)) rfl)))), ?_⟩
    refine ⟨_, rfl, by show 2 ≤ sizeLine; decide, fun y hy => ?_⟩
    refine ⟨_, y, _, _, _, true, rfl, upd_same, .cons (.ty _) (.cons (.ty _) .nil), (hq.mono (exn hy)).ty, kit_seq b, _, rfl, iteF ?_⟩
    have q1 := hq.mono (exn (o := .tup [.ty "list", .ty "tuple"]) hy)
    have lp : 1 ≤ ns.length := List.length_pos_iff.mpr ok.pos
    have l4 := ok.le
    refine ⟨_, rfl, a, _, rfl, sq_or q1, _, _, rfl, rfl, _, rfl, itt (decide_eq_true (by rw [List.length_map]; omega)) ?_⟩
    refine ⟨_, _, rfl, rfl, _, rfl, itf ?_ ?_⟩
    · rw [List.length_map, decide_eq_true (by omega)]
      rfl
    · have all1 : (ns.map fun n => atLeast (some n) 1).all id = true := by
        rw [List.all_map, List.all_eq_true]
        exact fun n hn => decide_eq_true (ok.one n hn)
      refine ⟨_, rfl, (b, a), rfl, ⟨_, q1.sq⟩, fun D hD => ?_⟩
      refine lc_vals walk_seq ((ns.map fun n => atLeast (some n) 1).map V.bl) (by simp) (by rw [List.length_map]; omega) hD (fun H3 e => (q1.mono e).sq) ?_ gmono_name ?_
      · intro i x H3 H4 R hi e yy kk
        obtain ⟨rfl, hx⟩ := yy
        obtain ⟨n, hn, rfl⟩ := map_get hx
        exact ⟨rfl, _, rfl, _, some n, 1, rfl, rfl, kk _ _ exr (by simp [hn])⟩
      · intro H3 e hD3
        have hp3 := e _ _ (exn hy _ _ hp)
        have q3 := q1.mono e
        have ex3 : Ex H H3 := fun c o z => e _ _ (exn hy _ _ z)
        refine ⟨D, _, rfl, SqL.of hD3, _, rfl, itf (by rw [all1]; rfl) ?_⟩
        cases b with
        | false =>
          refine ⟨_, rfl, a, _, rfl, .inl ⟨SqL.of q3, fun l hl => ?_⟩⟩
          have npl : p ≠ l := ne_of_none hp3 hl
          refine ⟨_, rfl, p, _, dx, _, rfl, (by rw [upd_ne npl]; exact hp3), T.cl_Table, T.n_Table_rings, (by show 0 < 1000; decide), ?_⟩
          refine k _ (fun c o hc z => ?_) ⟨l, upd_same, by rw [upd_ne npl.symm, upd_same]⟩
          rw [upd_ne hc, upd_ne (ne_of_none (ex3 c o z) hl)]
          exact ex3 c o z
        | true =>
          refine ⟨_, rfl, a, _, rfl, .inr ⟨SqT.of q3, ?_⟩⟩
          refine ⟨_, rfl, p, _, dx, _, rfl, hp3, T.cl_Table, T.n_Table_rings, (by show 0 < 1000; decide), ?_⟩
          have q3 : H3 a = some (.tup (ns.map V.int)) := q3
          refine k _ (fun c o hc z => ?_) ⟨a, upd_same, by rw [upd_ne (ne_of q3 hp3 (by intro z; cases z))]; exact q3⟩
          rw [upd_ne hc]
          exact ex3 c o z
end

theorem TyX.mono {K : PySem.W.Frag} {H H2 : Hp} {x : V} {t : Value} (e : Ex H H2) (h : TyX K H x t) : TyX K H2 x t := by
  cases h with
  | base h =>
    cases h with
    | non => exact .base .non
    | bl x => exact .base (.bl x)
    | int x => exact .base (.int x)
    | str x => exact .base (.str x)
    | flt x => exact .base (.flt x)
    | lst h => exact .base (.lst (e _ _ h))
    | frz h => exact .base (.frz (e _ _ h))
    | tup h => exact .base (.tup (e _ _ h))
    | dK h => exact .base (.dK (e _ _ h))
    | dT h => exact .base (.dT (e _ _ h))
    | ins h a b c d f => exact .base (.ins (e _ _ h) a b c d f)
  | byt b => exact .byt b
  | set h => exact .set (e _ _ h)
  | kList a b => exact .kList a b
  | kTuple a b => exact .kTuple a b
  | kDict a b => exact .kDict a b
  | fTuple h => exact .fTuple (e _ _ h)
  | fDict h => exact .fDict (e _ _ h)
theorem IsI.mono {K : PySem.W.Frag} {H H2 : Hp} {x : V} {o : Option Int} (e : Ex H H2) (h : IsI K H x o) : IsI K H2 x o := by
  cases o with
  | some i => exact h
  | none =>
    obtain ⟨t, b1, b2, ht, r⟩ := h
    exact ⟨t, b1, b2, TyX.mono e ht, r⟩
theorem paired_get {α β : Type} {R : α → β → Prop} : ∀ {l : List α} {m : List β} {i : Nat} {x : α}, Paired R l m → l[i]? = some x → ∃ y, m[i]? = some y ∧ R x y
  | _, _, _, _, .nil, h => by simp at h
  | _, _, 0, _, .cons r _, h => by simp at h; subst h; exact ⟨_, rfl, r⟩
  | _, _, i + 1, x, .cons _ t, h => by
    obtain ⟨y, h1, h2⟩ := paired_get (i := i) (x := x) t (by simpa using h)
    exact ⟨y, by simpa using h1, h2⟩
/-- what an argument is as a tuple: its items, as ints or not -/
def TupA (K : PySem.W.Frag) (H : Hp) (x : V) : Option (List (Option Int)) → Prop
  | some os => ∃ a xs, x = .ref a ∧ H a = some (.tup xs) ∧ xs.length ≤ 1000 ∧ Paired (IsI K H) xs os
  | none => ∃ t, TyX K H x t ∧ PySem.W.kitOne K t (.type "tuple") = some false
theorem paired_ints {K : PySem.W.Frag} {H : Hp} : ∀ ps : List Int, Paired (IsI K H) (ps.map V.int) (ps.map some)
  | [] => .nil
  | p :: ps => .cons rfl (paired_ints ps)
theorem TupA.ints {K : PySem.W.Frag} {H : Hp} {a : Addr} {ps : List Int} (h : H a = some (.tup (ps.map V.int))) (hl : ps.length ≤ 1000) : TupA K H (.ref a) (some (ps.map some)) :=
  ⟨a, _, rfl, h, by rw [List.length_map]; exact hl, paired_ints ps⟩
def isSeatO (ns : List Int) : Option (List (Option Int)) → Bool
  | some os => decide (os.length = ns.length) && (List.zipWith (fun o n => between o 0 (n - 1)) os ns).all id
  | none => false
def isCallO (ns : List Int) : Option (List (Option Int)) → Bool
  | some os => decide (os.length = ns.length) && (os.map Option.isSome).all id
  | none => false
/-- a seat: one place a ring -/
def SeatOk : List Int → List Int → Prop
  | n :: ns, p :: ps => (0 ≤ p ∧ p < n) ∧ SeatOk ns ps
  | [], [] => True
  | _, _ => False
theorem SeatOk.len : ∀ {ns ps : List Int}, SeatOk ns ps → ps.length = ns.length
  | [], [], _ => rfl
  | _ :: _, _ :: _, h => by
    show _ + 1 = _ + 1
    rw [SeatOk.len h.2]
theorem seat_is : ∀ {ns ps : List Int}, SeatOk ns ps → (List.zipWith (fun o n => between o 0 (n - 1)) (ps.map some) ns).all id = true
  | [], [], _ => rfl
  | n :: ns, p :: ps, h => by
    have ih := seat_is h.2
    show (between (some p) 0 (n - 1) && _) = true
    rw [Bool.and_eq_true]
    refine ⟨?_, ih⟩
    show (decide (0 ≤ p) && decide (p ≤ n - 1)) = true
    rw [decide_eq_true h.1.1, decide_eq_true (by have := h.1.2; omega)]
    rfl
theorem isSeat_ok {ns ps : List Int} (h : SeatOk ns ps) : isSeatO ns (some (ps.map some)) = true := by
  show (decide ((ps.map some).length = ns.length) && _) = true
  rw [Bool.and_eq_true]
  exact ⟨decide_eq_true (by rw [List.length_map]; exact h.len), seat_is h⟩
theorem isCall_ok {ns cs : List Int} (h : cs.length = ns.length) : isCallO ns (some (cs.map some)) = true := by
  show (decide ((cs.map some).length = ns.length) && _) = true
  rw [Bool.and_eq_true]
  refine ⟨decide_eq_true (by rw [List.length_map]; exact h), ?_⟩
  rw [List.map_map, List.all_map, List.all_eq_true]
  exact fun _ _ => rfl
/-- a step by a multiple of a call -/
def shiftL : List Int → List Int → List Int → Int → List Int
  | n :: ns, p :: ps, c :: cs, f => (p + f * c) % n :: shiftL ns ps cs f
  | _, _, _, _ => []
theorem shift_len : ∀ {ns ps cs : List Int} {f : Int}, ps.length = ns.length → cs.length = ns.length → (shiftL ns ps cs f).length = ns.length
  | [], _, _, _, _, _ => by simp [shiftL]
  | _ :: ns, p :: ps, c :: cs, f, h1, h2 => by
    have ih := @shift_len ns ps cs f (by simpa using h1) (by simpa using h2)
    show (shiftL ns ps cs f).length + 1 = _ + 1
    rw [ih]
theorem shift_get : ∀ {ns ps cs : List Int} {f : Int} {i : Nat} {n p c : Int}, ns[i]? = some n → ps[i]? = some p → cs[i]? = some c → (shiftL ns ps cs f)[i]? = some ((p + f * c) % n)
  | n :: ns, p :: ps, c :: cs, f, 0, _, _, _, h1, h2, h3 => by
    simp at h1 h2 h3
    subst h1 h2 h3
    rfl
  | n :: ns, p :: ps, c :: cs, f, i + 1, a, b, d, h1, h2, h3 => by
    have ih := @shift_get ns ps cs f i a b d (by simpa using h1) (by simpa using h2) (by simpa using h3)
    show (shiftL ns ps cs f)[i]? = _
    exact ih
  | [], _, _, _, i, _, _, _, h1, _, _ => by simp at h1
  | _ :: _, [], _, _, i, _, _, _, _, h2, _ => by simp at h2
  | _ :: _, _ :: _, [], _, i, _, _, _, _, _, h3 => by simp at h3
theorem mul_ok {i j : Int} (h : (-(2 ^ 64) < i ∧ i < 2 ^ 64) ∨ (-(2 ^ 64) < j ∧ j < 2 ^ 64)) : IntMulOk i j := CMul.ok h
theorem zip_get {α β γ : Type} {f : α → β → γ} {l : List α} {m : List β} {i : Nat} {x : α} {y : β} (h1 : l[i]? = some x) (h2 : m[i]? = some y) : (List.zipWith f l m)[i]? = some (f x y) := by
  rw [List.getElem?_zipWith, h1, h2]
section
variable {P : Program} {w : World} {K : PySem.W.Frag} {mg : Str → Option Value} {base : Heap}
def sp_Table_sizes (C : Addr) : Sp := fun vs H Q _ => ∃ (a dx t : Addr), vs = [.ref a] ∧ H a = some (.ins C dx [("rings", .ref t)]) ∧ Q (.ref t) H
theorem ok_Table_sizes (T : TX K mg) : FnOk P w K mg base CX0 1 T.f_Table_sizes T.fd_Table_sizes ["self"] (sp_Table_sizes T.C_Table) := by
  refine T.F_Table_sizes.ok sc_Table_sizes (fun vs H Q E h => ?_) (fun cdv A outer s H vs Q E hr h => ?_)
  · obtain ⟨a, dx, t, rfl, _⟩ := h
    rfl
  · obtain ⟨a, dx, t, rfl, h1, k⟩ := h
    exact ⟨_, (pss_one (ps_ret (pe_fld (pv 0) rfl))), ⟨_, rfl, a, _, dx, _, _, rfl, h1, T.cl_Table, T.n_Table_rings, rfl, k⟩⟩
def sp_Table_is_seat (K : PySem.W.Frag) (C : Addr) : Sp := fun vs H Q _ => ∃ (a : Addr) (x : V) (ns : List Int) (ot : Option (List (Option Int))), vs = [.ref a, x] ∧ TabAt C H a ns ∧ ns.length ≤ 4 ∧ TupA K H x ot ∧ ∀ H2, Ex H H2 → Q (.bl (isSeatO ns ot)) H2
theorem ok_Table_is_seat (T : TX K mg) : FnOk P w K mg base CX0 3 T.f_Table_is_seat T.fd_Table_is_seat ["self", "value"] (sp_Table_is_seat K T.C_Table) := by
  refine T.F_Table_is_seat.ok sc_Table_is_seat (fun vs H Q E h => ?_) (fun cdv A outer s H vs Q E hr h => ?_)
  · obtain ⟨a, x, ns, ot, rfl, _⟩ := h
    rfl
  · obtain ⟨a, x, ns, ot, rfl, ⟨dx, t, h1, h2⟩, l4, hx, k⟩ := h
    refine ⟨_, (pss_cons (ps_if (PW.pt (pw_or (pt_not (pt_val (pe_callB call_isi (by rfl) T.z_isinstance (by decide +kernel) (pa_cons (pv 1) (pa_cons (pe_bltn (v := .ty "tuple") rfl T.z_tuple (by decide +kernel) rfl) pa_nil))))) (pw_or1 (pt_cmpR op_ne (pe_callB call_len_seq (by rfl) T.z_len (by decide +kernel) (pa_cons (pv 1) pa_nil)) (pe_callB call_len_seq (by rfl) T.z_len (by decide +kernel) (pa_cons (pe_fld (pv 0) rfl) pa_nil)) (nomark _))))) (pss_one (ps_ret pe_bl)) pss_nil) (pss_one (ps_ret (pe_callB (cr_all rfl) (by rfl) T.z_all (by decide +kernel) (pa_cons (pe_lc (own := [("place", 2), ("size", 3)]) (g := (gTup K 2 (gCons (gName 2) (gCons (gName 3) gNil)))) rfl sc_Table_is_seat.nd (CZ.pi_z2s (fl := [true, true]) rfl (by rfl) T.z_zip (pa_cons (pv 1) (pa_cons (pe_fld (pv 0) rfl) pa_nil))) (blkOk_by (N := N_Table_is_seat) (sc := defScope s_Table_is_seat) (by decide +kernel)) (fun _ _ _ _ _ => (pg_tup rfl (pgs_cons (pg_name (i := 2) sc_Table_is_seat.nd rfl (Or.inl rfl)) (pgs_cons (pg_name (i := 3) sc_Table_is_seat.nd rfl (Or.inl rfl)) pgs_nil)))) (fun _ _ _ _ _ => pts_nil) (fun _ _ _ _ _ => (pe_call (ok_is_between T) hr rfl T.m_is_between T.F_is_between.kp T.b_is_between .nil pass0 (pa_cons (pv 2) (pa_cons pe_int (pa_cons (pe_op op_sub (pv 3) pe_int) pa_nil)))))) pa_nil))))), ?_⟩
    cases ot with
    | none =>
      obtain ⟨ty, hty, hk⟩ := hx
      exact ⟨_, rfl, _, _, _, _, false, rfl, .ty _, hty, hk, _, rfl, k _ exr⟩
    | some os =>
      obtain ⟨v, xs, rfl, hv, hl, hp⟩ := hx
      have lo : xs.length = os.length := Paired.length hp
      refine ⟨_, rfl, _, _, _, _, true, rfl, .ty _, .base (.tup hv), kit_ty (by decide +kernel), _, rfl, iteF ?_⟩
      refine ⟨_, rfl, v, _, rfl, .inr (SqT.of hv), _, rfl, a, _, dx, _, _, rfl, h1, T.cl_Table, T.n_Table_rings, rfl, t, _, rfl, .inr (SqT.of h2), rfl, _, rfl, ?_⟩
      by_cases c : os.length = ns.length
      · refine itf ?_ ?_
        · rw [List.length_map, lo, c]
          simp
        · refine ⟨_, rfl, _, rfl, a, _, dx, _, _, rfl, h1, T.cl_Table, T.n_Table_rings, rfl, [v, t], rfl, rfl, ?_, fun D hD => ?_⟩
          · intro p hp2
            rcases List.mem_cons.mp (show p ∈ [(true, v), (true, t)] from hp2) with e | e
            · rw [e]; exact ⟨xs, SqT.of hv⟩
            · rw [List.mem_singleton.mp e]; exact ⟨_, SqT.of h2⟩
          · have lv : (List.zipWith (fun o n => between o 0 (n - 1)) os ns).length = ns.length := by rw [List.length_zipWith, c, Nat.min_self]
            refine lc_vals (CZ.walk_rows (xss := [xs, ns.map V.int]) (n := ns.length) ?_) ((List.zipWith (fun o n => between o 0 (n - 1)) os ns).map V.bl) (by rw [List.length_map, lv]) (by omega) hD (fun H3 e => .cons (SqT.of (e _ _ hv)) (.cons (SqT.of (e _ _ h2)) .nil)) ?_ (gmono_tup (gmono_cons gmono_name (gmono_cons gmono_name gmono_nil))) ?_
            · intro ys hy
              rcases List.mem_cons.mp hy with e | e
              · rw [e, lo, c]
              · rw [List.mem_singleton.mp e, List.length_map]
            · intro i y H3 H4 R hi e yy kk
              obtain ⟨Ta, vs, rfl, hT, rfl, hr2⟩ := yy
              cases hr2 with
              | cons r1 hr2 =>
                cases hr2 with
                | cons r2 hr2 =>
                  cases hr2
                  obtain ⟨n, hn, rfl⟩ := map_get r2
                  obtain ⟨o, ho, hi2⟩ := paired_get hp r1
                  refine ⟨Ta, _, rfl, SqT.of upd_same, rfl, _, _, rfl, _, _, rfl, rfl, rfl, ?_⟩
                  refine ⟨_, rfl, _, rfl, _, _, rfl, rfl, _, o, 0, n - 1, rfl, hi2.mono (fun b u z => exn hT b u (e b u z)), ?_⟩
                  refine kk _ _ (exn hT) ?_
                  rw [List.getElem?_map, zip_get ho hn]
                  rfl
            · intro H3 e hD3
              refine ⟨D, _, rfl, SqL.of hD3, ?_⟩
              have es : isSeatO ns (some os) = (List.zipWith (fun o n => between o 0 (n - 1)) os ns).all id := by
                show (decide _ && _) = _
                rw [decide_eq_true c, Bool.true_and]
              rw [← es]
              exact k _ e
      · refine itt ?_ ?_
        · rw [List.length_map, lo]
          simp
          omega
        · have es : isSeatO ns (some os) = false := by
            show (decide _ && _) = _
            rw [decide_eq_false c, Bool.false_and]
          have := k _ exr
          rw [es] at this
          exact this
end

/-- what an argument is as a text -/
def StrA (K : PySem.W.Frag) (H : Hp) (x : V) : Option Str → Prop
  | some z => x = .str z
  | none => ∃ t, TyX K H x t ∧ PySem.W.kitOne K t (.type "str") = some false
def isDirO : Option Str → Bool
  | some z => decide (z = "forward") || decide (z = "backward")
  | none => false
theorem tup_ge {xs : List V} (h : xs.length ≤ 4) : xs.length ≤ sizeLine := Nat.le_trans h (by decide)
section
variable {P : Program} {w : World} {K : PySem.W.Frag} {mg : Str → Option Value} {base : Heap}
def sp_require_seat (K : PySem.W.Frag) (C : Addr) : Sp := fun vs H Q _ => ∃ (a : Addr) (x : V) (ns : List Int) (ot : Option (List (Option Int))), vs = [.ref a, x] ∧ TabAt C H a ns ∧ ns.length ≤ 4 ∧ TupA K H x ot ∧ isSeatO ns ot = true ∧ ∀ H2, Ex H H2 → Q .non H2
theorem ok_require_seat (T : TX K mg) : FnOk P w K mg base CX0 4 T.f_require_seat T.fd_require_seat ["table", "seat"] (sp_require_seat K T.C_Table) := by
  refine T.F_require_seat.ok sc_require_seat (fun vs H Q E h => ?_) (fun cdv A outer s H vs Q E hr h => ?_)
  · obtain ⟨a, x, ns, ot, rfl, _⟩ := h
    rfl
  · obtain ⟨a, x, ns, ot, rfl, ht, l4, hx, ok, k⟩ := h
    refine ⟨_, (pss_one (ps_if (pt_not (pt_val (pe_meth (pv 0) T.cl_Table T.me_Table_is_seat (ok_Table_is_seat T) hr T.b_Table_is_seat .nil pass0 (pa_cons (pv 1) pa_nil)))) pss_never pss_nil)), ?_⟩
    obtain ⟨dx, t, h1, h2⟩ := id ht
    refine ⟨_, rfl, a, dx, _, rfl, h1, rfl, _, rfl, a, x, ns, ot, rfl, ht, l4, hx, fun H2 e => ⟨_, rfl, itf (by rw [ok]; rfl) (k _ e)⟩⟩
end

/-- all but what is at s stays -/
def XB (s : Addr) (H H2 : Hp) : Prop := ∀ c o, c ≠ s → H c = some o → H2 c = some o
theorem XB.refl {s : Addr} {H : Hp} : XB s H H := fun _ _ _ h => h
theorem XB.trans {s : Addr} {H H1 H2 : Hp} (a : XB s H H1) (b : XB s H1 H2) : XB s H H2 := fun c o n h => b c o n (a c o n h)
theorem XB.upd {s : Addr} {H : Hp} {o : HO} : XB s H (upd H s o) := fun c u n h => by rw [upd_ne n]; exact h
theorem XB.of {s : Addr} {H H2 : Hp} (e : Ex H H2) : XB s H H2 := fun c o _ h => e c o h
theorem XB.back {s : Addr} {H H2 : Hp} (e : XB s H H2) {p : Addr} (hn : p ≠ s) (h : H2 p = none) : H p = none := by
  cases q : H p with
  | none => rfl
  | some o => rw [e p o hn q] at h; cases h
theorem mod_lo {i n : Int} (h : 0 < n) : 0 ≤ i % n := Int.emod_nonneg i (by omega)
theorem mod_hi {i n : Int} (h : 0 < n) : i % n < n := Int.emod_lt_of_pos i h

/-- a source of draws stands at s -/
def Src (H : Hp) (s : Addr) : Prop := ∃ a b c : Int, H s = some (.lst [.int a, .int b, .int c])
theorem Src.mono {s : Addr} {H H2 : Hp} (e : Ex H H2) (h : Src H s) : Src H2 s := by
  obtain ⟨a, b, c, h⟩ := h
  exact ⟨a, b, c, e _ _ h⟩
theorem Src.ne {s p : Addr} {H : Hp} (h : Src H s) (hp : H p = none) : p ≠ s := by
  obtain ⟨a, b, c, h⟩ := h
  exact (ne_of_none h hp).symm
theorem Src.new {s p : Addr} {H : Hp} {o : HO} (h : Src H s) (hp : H p = none) : Src (upd H p o) s := Src.mono (exn hp) h
section
variable {P : Program} {w : World} {K : PySem.W.Frag} {mg : Str → Option Value} {base : Heap}
def sp_law_mixed : Sp := fun vs H Q _ => ∃ c d : Int, vs = [.int c, .int d] ∧ ∀ r : Int, 0 ≤ r → r < 2147483563 → Q (.int r) H
theorem ok_law_mixed (T : TX K mg) : FnOk P w K mg base CX0 1 T.f_law_mixed T.fd_law_mixed ["_law_cell", "_law_draw"] sp_law_mixed := by
  refine T.F_law_mixed.ok sc_law_mixed (fun vs H Q E h => ?_) (fun cdv A outer s H vs Q E hr h => ?_)
  · obtain ⟨c, d, rfl, _⟩ := h
    rfl
  · obtain ⟨c, d, rfl, k⟩ := h
    refine ⟨_, (pss_cons (ps_set (i := 2) sc_law_mixed.nd rfl (Or.inl rfl) (pe_op op_mod (pe_op op_mulI (pe_op op_add (pe_op op_mod (pv 0) pe_int) pe_int) (pe_op op_add (pe_op op_mulI (pv 1) pe_int) pe_int)) pe_int)) (pss_cons (ps_set (i := 2) sc_law_mixed.nd rfl (Or.inl rfl) (pe_op op_mod (pe_op op_mulI (pe_op op_add (pv 2) (pe_op op_mulI (pe_op op_mod (pe_op op_fdivW (pv 0) pe_int) pe_int) (pe_op op_add (pv 1) pe_int))) pe_int) pe_int)) (pss_cons (ps_set (i := 2) sc_law_mixed.nd rfl (Or.inl rfl) (pe_op op_mod (pe_op op_mulI (pv 2) (pe_op op_add (pe_op op_add (pe_op op_fdivW (pv 2) pe_int) pe_int) (pv 1))) pe_int)) (pss_one (ps_ret (pe_op op_mod (pe_op op_mulI (pv 2) (pe_op op_add (pe_op op_fdivW (pv 2) pe_int) pe_int)) pe_int)))))), ?_⟩
    have a1 := mod_lo (i := c) (n := 2147483646) (by decide)
    have a2 := mod_hi (i := c) (n := 2147483646) (by decide)
    refine ⟨_, rfl, _, _, rfl, rfl, (by show (0 : Int) < _; decide), _, _, rfl, rfl, _, rfl, _, _, rfl, rfl, mul_ok (.inr (by decide)), _, _, rfl, rfl, _, _, rfl, rfl, mul_ok (.inl (by omega)), _, _, rfl, rfl, (by show (0 : Int) < _; decide), ?_⟩
    generalize (c % 2147483646 + 1) * (d * 7919 + 104729) % 2147483647 = n1
    have b1 := mod_lo (i := c / 2147483646) (n := 1000003) (by decide)
    have b2 := mod_hi (i := c / 2147483646) (n := 1000003) (by decide)
    refine ⟨_, rfl, _, rfl, _, _, rfl, rfl, ⟨by decide, by decide +kernel⟩, _, _, rfl, rfl, (by show (0 : Int) < _; decide), _, rfl, _, _, rfl, rfl, _, _, rfl, rfl, mul_ok (.inl (by omega)), _, _, rfl, rfl, _, _, rfl, rfl, mul_ok (.inr (by decide)), _, _, rfl, rfl, (by show (0 : Int) < _; decide), ?_⟩
    have c1 := mod_lo (i := (n1 + c / 2147483646 % 1000003 * (d + 31)) * 48271) (n := 2147483629) (by decide)
    have c2 := mod_hi (i := (n1 + c / 2147483646 % 1000003 * (d + 31)) * 48271) (n := 2147483629) (by decide)
    generalize (n1 + c / 2147483646 % 1000003 * (d + 31)) * 48271 % 2147483629 = n2 at c1 c2
    refine ⟨_, rfl, _, rfl, _, _, rfl, rfl, ⟨by decide, by decide +kernel⟩, _, _, rfl, rfl, _, rfl, _, _, rfl, rfl, _, _, rfl, rfl, mul_ok (.inl (by omega)), _, _, rfl, rfl, (by show (0 : Int) < _; decide), ?_⟩
    have d1 := mod_lo (i := n2 * (n2 / 1013 + 69621 + d)) (n := 2147483587) (by decide)
    have d2 := mod_hi (i := n2 * (n2 / 1013 + 69621 + d)) (n := 2147483587) (by decide)
    generalize n2 * (n2 / 1013 + 69621 + d) % 2147483587 = n3 at d1 d2
    exact ⟨_, rfl, _, rfl, _, _, rfl, rfl, ⟨by decide, by decide +kernel⟩, _, _, rfl, rfl, _, _, rfl, rfl, mul_ok (.inl (by omega)), _, _, rfl, rfl, (by show (0 : Int) < _; decide), k _ (mod_lo (by decide)) (mod_hi (by decide))⟩
def sp_law_source : Sp := fun vs H Q _ => ∃ c : Int, vs = [.int c] ∧ ∀ H2 s, Ex H H2 → H s = none → Src H2 s → Q (.ref s) H2
theorem ok_law_source (T : TX K mg) : FnOk P w K mg base CX0 1 T.f_law_source T.fd_law_source ["_law_cell"] sp_law_source := by
  refine T.F_law_source.ok sc_law_source (fun vs H Q E h => ?_) (fun cdv A outer s H vs Q E hr h => ?_)
  · obtain ⟨c, rfl, _⟩ := h
    rfl
  · obtain ⟨c, rfl, k⟩ := h
    exact ⟨_, (pss_one (ps_ret (pe_lst (pa_cons (pv 0) (pa_cons (pv 0) (pa_cons pe_int pa_nil)))))), ⟨_, rfl, _, rfl, (by show 3 ≤ sizeLine; decide), fun s hs => k _ s (exn hs) hs ⟨c, c, 0, upd_same⟩⟩⟩
def sp_law_take : Sp := fun vs H Q _ => ∃ (s : Addr) (n : Int), vs = [.ref s, .int n] ∧ Src H s ∧ 0 < n ∧ n.natAbs < 2 ^ 8000 ∧ ∀ r H2, 0 ≤ r → r < n → XB s H H2 → Src H2 s → Q (.int r) H2
theorem ok_law_take (T : TX K mg) : FnOk P w K mg base CX0 2 T.f_law_take T.fd_law_take ["_law_source_here", "_law_count"] sp_law_take := by
  refine T.F_law_take.ok sc_law_take (fun vs H Q E h => ?_) (fun cdv A outer s H vs Q E hr h => ?_)
  · obtain ⟨s, n, rfl, _⟩ := h
    rfl
  · obtain ⟨s, n, rfl, ⟨a, b, c, hs⟩, h0, hb, k⟩ := h
    refine ⟨_, (pss_cons (ps_if (pt_cmpR op_ge (pe_ix ix_list (pv 0) pe_int (fun _ _ => rfl)) (pe_op op_pow pe_int pe_int) (nomark _)) (pss_cons (ps_set (i := 2) sc_law_take.nd rfl (Or.inl rfl) (pe_op op_mod (pe_ix ix_list (pv 0) pe_int (fun _ _ => rfl)) (pv 1))) (pss_cons (ps_asg (pe_op op_fdivW (pe_ix ix_list (pv 0) pe_int (fun _ _ => rfl)) (pv 1)) (pg_sub (pv 0) pe_int set_list)) (pss_one (ps_ret (pv 2))))) pss_nil) (pss_cons (ps_asg (pe_op op_add (pe_ix ix_list (pv 0) pe_int (fun _ _ => rfl)) pe_int) (pg_sub (pv 0) pe_int set_list)) (pss_one (ps_ret (pe_op op_mod (pe_call (ok_law_mixed T) hr rfl T.m_law_mixed T.F_law_mixed.kp T.b_law_mixed .nil pass0 (pa_cons (pe_ix ix_list (pv 0) pe_int (fun _ _ => rfl)) (pa_cons (pe_ix ix_list (pv 0) pe_int (fun _ _ => rfl)) pa_nil))) (pv 1)))))), ?_⟩
    refine ⟨_, rfl, s, _, _, _, rfl, rfl, SqL.of hs, rfl, _, _, rfl, rfl, ⟨by decide, by decide, by decide⟩, _, _, rfl, rfl, _, rfl, ?_⟩
    refine ite2 (fun _ => ?_) (fun _ => ?_)
    · refine ⟨_, rfl, s, _, _, _, rfl, rfl, SqL.of hs, rfl, _, rfl, _, _, rfl, rfl, h0, ?_⟩
      refine ⟨_, rfl, s, _, _, _, rfl, rfl, SqL.of hs, rfl, _, rfl, _, _, rfl, rfl, wide_div h0 hb (by decide) (by decide), _, rfl, s, _, _, 0, rfl, rfl, hs, rfl, ?_⟩
      exact ⟨_, rfl, k _ _ (mod_lo h0) (mod_hi h0) XB.upd ⟨_, _, _, upd_same⟩⟩
    · refine ⟨_, rfl, s, _, _, _, rfl, rfl, SqL.of hs, rfl, _, _, rfl, rfl, _, rfl, s, _, _, 2, rfl, rfl, hs, rfl, ?_⟩
      refine ⟨_, rfl, s, _, _, _, rfl, rfl, SqL.of upd_same, rfl, _, rfl, s, _, _, _, rfl, rfl, SqL.of upd_same, rfl, _, _, rfl, fun r _ _ => ?_⟩
      exact ⟨_, rfl, _, _, rfl, rfl, h0, k _ _ (mod_lo h0) (mod_hi h0) XB.upd ⟨_, _, _, upd_same⟩⟩
end

theorem at_ex {xs : List Int} {r : Int} (h0 : 0 ≤ r) (h1 : r < xs.length) : ∃ v, v ∈ xs ∧ atI (xs.map V.int) r = some (.int v) := by
  obtain ⟨j, rfl⟩ : ∃ j : Nat, r = (j : Int) := ⟨r.toNat, by omega⟩
  have hj : j < xs.length := by omega
  refine ⟨xs[j], List.getElem_mem hj, atI_nat ?_⟩
  rw [List.getElem?_map, List.getElem?_eq_getElem hj]
  rfl
theorem pow2_pos (k : Nat) : (1 : Int) ≤ 2 ^ k := by
  have h : 0 < 2 ^ k := Nat.pow_pos (by decide)
  have e : ((2 ^ k : Nat) : Int) = (2 : Int) ^ k := by simp
  omega
theorem pow2_le {j k : Nat} (h : j ≤ k) : (2 : Int) ^ j ≤ 2 ^ k := by
  have h1 : 2 ^ j ≤ 2 ^ k := Nat.pow_le_pow_right (by decide) h
  have e1 : ((2 ^ j : Nat) : Int) = (2 : Int) ^ j := by simp
  have e2 : ((2 ^ k : Nat) : Int) = (2 : Int) ^ k := by simp
  omega
theorem shl_one {r : Int} (h0 : 0 ≤ r) (h1 : r ≤ 1000) : CShl 1 r := by
  obtain ⟨j, rfl⟩ : ∃ j : Nat, r = (j : Int) := ⟨r.toNat, by omega⟩
  exact shl_ok (n := 1) (by decide) (by omega)

section
variable {P : Program} {w : World} {K : PySem.W.Frag} {mg : Str → Option Value} {base : Heap}
def sp_law_big : Sp := fun vs H Q _ => ∃ (s : Addr), vs = [.ref s] ∧ Src H s ∧ ∀ (r : Int) H2, 1 ≤ r → r ≤ 10 ^ 27 → XB s H H2 → Src H2 s → Q (.int r) H2
theorem ok_law_big (T : TX K mg) : FnOk P w K mg base CX0 3 T.f_law_big T.fd_law_big ["_law_source_here"] sp_law_big := by
  refine T.F_law_big.ok sc_law_big (fun vs H Q E h => ?_) (fun cdv A outer s H vs Q E hr h => ?_)
  · obtain ⟨s, rfl, _⟩ := h
    rfl
  · obtain ⟨s, rfl, hs, k⟩ := h
    refine ⟨_, (pss_cons (ps_set (i := 1) sc_law_big.nd rfl (Or.inl rfl) pe_int) (pss_cons (ps_for PassesOwn.never rfl (pi_range1 rfl T.z_range (pa_cons pe_int pa_nil)) (pg_name (i := 2) sc_law_big.nd rfl (Or.inl rfl)) (pss_one (ps_set (i := 1) sc_law_big.nd rfl (Or.inl rfl) (pe_op op_add (pe_op op_mulI (pv 1) (pe_op op_pow pe_int pe_int)) (pe_call (ok_law_take T) hr rfl T.m_law_take T.F_law_take.kp T.b_law_take .nil pass0 (pa_cons (pv 0) (pa_cons (pe_op op_pow pe_int pe_int) pa_nil))))))) (pss_one (ps_ret (pe_op op_add pe_int (pv 1)))))), ?_⟩
    refine ⟨3, rfl, by decide, by decide, ?_⟩
    refine for_it walk_range (fun i σ H2 => ∃ (f : Int) (y : Option V), σ = [some (.ref s), some (.int f), y] ∧ 0 ≤ f ∧ f < (10 : Int) ^ (9 * i) ∧ XB s H H2 ∧ Src H2 s) ⟨0, none, rfl, by decide, by decide, XB.refl, hs⟩ (fun _ _ _ _ _ => True.intro) ?_ ?_
    · rintro i x σ H2 H3 hi ⟨f, y, rfl, f0, f1, xb, src⟩ ⟨rfl, rfl⟩
      refine ⟨_, rfl, _, _, rfl, rfl, ⟨by decide, by decide, by decide⟩, _, _, rfl, rfl, mul_ok (.inr (by decide)), _, rfl, _, _, rfl, rfl, ⟨by decide, by decide, by decide⟩, s, _, rfl, src, by decide, by decide +kernel, fun r H4 r0 r1 xb4 src4 => ?_⟩
      refine ⟨_, _, rfl, rfl, ?_⟩
      have e9 : (10 : Int) ^ (9 : Int).toNat = 1000000000 := by decide
      rw [e9] at r1 ⊢
      refine ⟨_, _, rfl, ?_, ?_, xb.trans xb4, src4⟩
      · omega
      · have e : (10 : Int) ^ (9 * (i + 1)) = 10 ^ (9 * i) * 1000000000 := by
          rw [show 9 * (i + 1) = 9 * i + 9 by omega, Int.pow_add]
          rfl
        rw [e]
        omega
    · rintro σ H2 ⟨f, y, rfl, f0, f1, xb, src⟩
      have f2 : f < 10 ^ 27 := f1
      exact ⟨_, rfl, _, _, rfl, rfl, k _ _ (by omega) (by omega) xb src⟩
def sp_law_rings : Sp := fun vs H Q _ => ∃ (s : Addr), vs = [.ref s] ∧ Src H s ∧ ∀ (l : Addr) (ns : List Int) H2, H l = none → H2 l = some (.lst (ns.map V.int)) → SzOk ns → (∀ n ∈ ns, n ≤ 10 ^ 27) → XB s H H2 → Src H2 s → Q (.ref l) H2
theorem ok_law_rings (T : TX K mg) : FnOk P w K mg base CX0 4 T.f_law_rings T.fd_law_rings ["_law_source_here"] sp_law_rings := by
  refine T.F_law_rings.ok sc_law_rings (fun vs H Q E h => ?_) (fun cdv A outer s H vs Q E hr h => ?_)
  · obtain ⟨s, rfl, _⟩ := h
    rfl
  · obtain ⟨s, rfl, hs, k⟩ := h
    refine ⟨_, (pss_cons (ps_set (i := 1) sc_law_rings.nd rfl (Or.inl rfl) (pe_lst (pa_cons pe_int (pa_cons pe_int (pa_cons pe_int (pa_cons pe_int (pa_cons pe_int (pa_cons pe_int (pa_cons pe_int (pa_cons pe_int (pa_cons pe_int (pa_cons pe_int pa_nil)))))))))))) (pss_cons (ps_set (i := 2) sc_law_rings.nd rfl (Or.inl rfl) (pe_lst pa_nil)) (pss_cons (ps_for PassesOwn.never rfl (pi_range1 rfl T.z_range (pa_cons (pe_op op_add pe_int (pe_call (ok_law_take T) (hr.mono (by decide)) rfl T.m_law_take T.F_law_take.kp T.b_law_take .nil pass0 (pa_cons (pv 0) (pa_cons pe_int pa_nil)))) pa_nil)) (pg_name (i := 3) sc_law_rings.nd rfl (Or.inl rfl)) (pss_cons (ps_set (i := 4) sc_law_rings.nd rfl (Or.inl rfl) (pe_lst (pa_cons (pe_ix ix_list (pv 1) (pe_call (ok_law_take T) (hr.mono (by decide)) rfl T.m_law_take T.F_law_take.kp T.b_law_take .nil pass0 (pa_cons (pv 0) (pa_cons pe_int pa_nil))) (fun _ _ => rfl)) (pa_cons (pe_op op_shlW pe_int (pe_call (ok_law_take T) (hr.mono (by decide)) rfl T.m_law_take T.F_law_take.kp T.b_law_take .nil pass0 (pa_cons (pv 0) (pa_cons pe_int pa_nil)))) (pa_cons (pe_call (ok_law_big T) hr rfl T.m_law_big T.F_law_big.kp T.b_law_big .nil pass0 (pa_cons (pv 0) pa_nil)) pa_nil))))) (pss_one (ps_expr (pe_bm PySem.F.plainAttrs_list PySem.F.slot_list_append PySem.F.type_list_append mt_append (pv 2) (pa_cons (pe_ix ix_list (pv 4) (pe_ix ix_list (pe_lst (pa_cons pe_int (pa_cons pe_int (pa_cons pe_int (pa_cons pe_int (pa_cons pe_int pa_nil)))))) (pe_call (ok_law_take T) (hr.mono (by decide)) rfl T.m_law_take T.F_law_take.kp T.b_law_take .nil pass0 (pa_cons (pv 0) (pa_cons pe_int pa_nil))) (fun _ _ => rfl)) (fun _ _ => rfl)) pa_nil)))))) (pss_one (ps_ret (pv 2)))))), ?_⟩
    refine ⟨by show 10 ≤ sizeLine; decide, fun sm hsm => ⟨Nat.zero_le _, fun l hl => ?_⟩⟩
    have nsm : sm ≠ s := hs.ne hsm
    have hs1 := hs.new (o := .lst [.int 1, .int 2, .int 3, .int 4, .int 5, .int 6, .int 8, .int 9, .int 12, .int 15]) hsm
    have nl : l ≠ s := hs1.ne hl
    have nls : sm ≠ l := ne_of_none upd_same hl
    have hl0 : H l = none := by rw [upd_ne nls.symm] at hl; exact hl
    have hs2 := hs1.new (o := .lst []) hl
    refine ⟨_, rfl, s, 4, rfl, hs2, by decide, by decide +kernel, fun r H1 r0 r1 xb1 src1 => ?_⟩
    refine ⟨_, _, rfl, rfl, 1 + r, rfl, by omega, by omega, ?_⟩
    have base1 : XB s H H1 := fun c o n z => xb1 c o n (by rw [upd_ne (ne_of_none z hl0), upd_ne (ne_of_none z hsm)]; exact z)
    refine for_it walk_range (fun i σ H2 => ∃ (ns : List Int) (y4 y5 : Option V), σ = [some (.ref s), some (.ref sm), some (.ref l), y4, y5] ∧ H2 sm = some (.lst (([1, 2, 3, 4, 5, 6, 8, 9, 12, 15] : List Int).map V.int)) ∧ H2 l = some (.lst (ns.map V.int)) ∧ ns.length = i ∧ (∀ n ∈ ns, 1 ≤ n ∧ n ≤ 10 ^ 27) ∧ XB s H H2 ∧ Src H2 s)
      ⟨[], none, none, rfl, xb1 _ _ nsm (by rw [upd_ne nls, upd_same]; rfl), xb1 _ _ nl upd_same, rfl, (fun _ h => nomatch h), base1, src1⟩ (fun _ _ _ _ _ => True.intro) ?_ ?_
    · rintro i x σ H2 H3 hi ⟨ns, y4, y5, rfl, hm2, hl2, len, inb, xb, src⟩ ⟨rfl, rfl⟩
      refine ⟨_, rfl, _, rfl, s, 10, rfl, src, by decide, by decide +kernel, fun q H4 q0 q1 xb4 src4 => ?_⟩
      obtain ⟨v1, m1, g1⟩ := at_ex (xs := [1, 2, 3, 4, 5, 6, 8, 9, 12, 15]) q0 q1
      refine ⟨sm, _, _, _, rfl, rfl, SqL.of (xb4 _ _ nsm hm2), g1, ?_⟩
      refine ⟨_, rfl, s, 70, rfl, src4, by decide, by decide +kernel, fun q2 H5 q20 q21 xb5 src5 => ?_⟩
      refine ⟨_, _, rfl, rfl, shl_one q20 (by omega), ?_⟩
      refine ⟨_, rfl, s, rfl, src5, fun q3 H6 q30 q31 xb6 src6 => ?_⟩
      refine ⟨by show 3 ≤ sizeLine; decide, fun pk hpk => ?_⟩
      have npk : pk ≠ s := src6.ne hpk
      have l6 := xb6 _ _ nl (xb5 _ _ nl (xb4 _ _ nl hl2))
      have s6 := xb6 _ _ nsm (xb5 _ _ nsm (xb4 _ _ nsm hm2))
      have nlp : l ≠ pk := ne_of_none l6 hpk
      have nsp : sm ≠ pk := ne_of_none s6 hpk
      have xb06 : XB s H H6 := ((xb.trans xb4).trans xb5).trans xb6
      refine ⟨_, rfl, .inl ⟨rfl, _, SqL.of (by rw [upd_ne nlp]; exact l6)⟩, _, rfl, by show 5 ≤ sizeLine; decide, fun ix hix => ?_⟩
      have src7 := (src6.new (o := .lst [.int v1, .int (1 * 2 ^ q2.toNat), .int q3]) hpk)
      have nix : ix ≠ s := src7.ne hix
      have nlx : l ≠ ix := ne_of_none (by rw [upd_ne nlp]; exact l6) hix
      have nsx : sm ≠ ix := ne_of_none (by rw [upd_ne nsp]; exact s6) hix
      have npx : pk ≠ ix := ne_of_none upd_same hix
      refine ⟨_, rfl, s, 5, rfl, src7.new hix, by decide, by decide +kernel, fun q4 H8 q40 q41 xb8 src8 => ?_⟩
      obtain ⟨j, mj, gj⟩ := at_ex (xs := [0, 0, 0, 1, 2]) q40 q41
      refine ⟨ix, _, _, _, rfl, rfl, SqL.of (xb8 _ _ nix upd_same), gj, ?_⟩
      have j3 : 0 ≤ j ∧ j < 3 := by
        have : j = 0 ∨ j = 0 ∨ j = 0 ∨ j = 1 ∨ j = 2 := by simpa using mj
        omega
      obtain ⟨v, mv, gv⟩ := at_ex (xs := [v1, 1 * 2 ^ q2.toNat, q3]) j3.1 j3.2
      refine ⟨pk, _, _, _, rfl, rfl, SqL.of (xb8 _ _ npk (by rw [upd_ne npx, upd_same]; rfl)), gv, ?_⟩
      have l8 : H8 l = some (.lst (ns.map V.int)) := xb8 _ _ nl (by rw [upd_ne nlx, upd_ne nlp]; exact l6)
      have s8 : H8 sm = _ := xb8 _ _ nsm (by rw [upd_ne nsx, upd_ne nsp]; exact s6)
      have x8 : XB s H H8 := fun c o n z => by
        have z6 := xb06 c o n z
        have ncp : c ≠ pk := ne_of_none z6 hpk
        have ncx : c ≠ ix := ne_of_none (by rw [upd_ne ncp]; exact z6) hix
        exact xb8 c o n (by rw [upd_ne ncx, upd_ne ncp]; exact z6)
      refine ⟨l, _, _, rfl, rfl, l8, ?_, ?_⟩
      · rw [List.length_map, len]
        exact Nat.lt_of_lt_of_le (show i < 4 by omega) (by decide)
      · have vb : 1 ≤ v ∧ v ≤ 10 ^ 27 := by
          have : v = v1 ∨ v = 1 * 2 ^ q2.toNat ∨ v = q3 := by simpa using mv
          rcases this with e | e | e
          · rw [e]
            have : v1 = 1 ∨ v1 = 2 ∨ v1 = 3 ∨ v1 = 4 ∨ v1 = 5 ∨ v1 = 6 ∨ v1 = 8 ∨ v1 = 9 ∨ v1 = 12 ∨ v1 = 15 := by simpa using m1
            omega
          · rw [e]
            have h1 := pow2_pos q2.toNat
            have h2 : (2 : Int) ^ q2.toNat ≤ 2 ^ 70 := pow2_le (by omega)
            have h3 : (2 : Int) ^ 70 ≤ 10 ^ 27 := by decide
            omega
          · rw [e]
            exact ⟨q30, q31⟩
        refine ⟨ns ++ [v], _, _, rfl, ?_, ?_, ?_, ?_, ?_, ?_⟩
        · rw [upd_ne nls]; exact s8
        · rw [upd_same, List.map_append]; rfl
        · rw [List.length_append, len]; rfl
        · intro n hn
          rcases List.mem_append.mp hn with h | h
          · exact inb n h
          · rw [List.mem_singleton.mp h]; exact vb
        · intro c o n z
          rw [upd_ne (ne_of_none z hl0)]
          exact x8 c o n z
        · obtain ⟨a, b, c, z⟩ := src8
          exact ⟨a, b, c, by rw [upd_ne nl.symm]; exact z⟩
    · rintro σ H2 ⟨ns, y4, y5, rfl, hm2, hl2, len, inb, xb, src⟩
      refine ⟨_, rfl, k l ns H2 hl0 hl2 ⟨?_, ?_, fun n hn => (inb n hn).1⟩ (fun n hn => (inb n hn).2) xb src⟩
      · intro e
        rw [e] at len
        have : (0 : Nat) = (1 + r).toNat := len
        omega
      · omega
end

/-- the joining of ways behind an if: R is what is known of the heap there -/
theorem ifs_cut {c : TT} {t u : TS} {D : Ends} {σ : L2.St} {H : Hp} (R : Hp → Prop) (hR : ∀ H2, R H2 → D.nx σ H2) (h : ∀ N : L2.St → Hp → Prop, (∀ H2, R H2 → N σ H2) → tIfS c t u { D with nx := N } σ H) : tIfS c t u D σ H := h D.nx hR
theorem tup_xb {s q : Addr} {H H2 : Hp} {xs : List V} (src : Src H s) (h : H q = some (.tup xs)) (xb : XB s H H2) : H2 q = some (.tup xs) := by
  obtain ⟨a, b, c, z⟩ := src
  exact xb _ _ (ne_of h z (by intro q; cases q)) h
theorem TabAt.xb {C s a : Addr} {H H2 : Hp} {ns : List Int} (src : Src H s) (xb : XB s H H2) (h : TabAt C H a ns) : TabAt C H2 a ns := by
  obtain ⟨dx, t, h1, h2⟩ := h
  obtain ⟨u, v, c, z⟩ := id src
  exact ⟨dx, t, xb _ _ (ne_of h1 z (by intro q; cases q)) h1, tup_xb src h2 xb⟩
theorem SeatOk.snoc : ∀ {ns ps : List Int} {n p : Int}, SeatOk ns ps → 0 ≤ p → p < n → SeatOk (ns ++ [n]) (ps ++ [p])
  | [], [], _, _, _, h0, h1 => ⟨⟨h0, h1⟩, True.intro⟩
  | _ :: _, _ :: _, _, _, h, h0, h1 => ⟨h.1, SeatOk.snoc h.2 h0 h1⟩
def prodL (ns : List Int) : Int := ns.foldl (fun p n => p * n) 1
theorem prod_snoc (ns : List Int) (n : Int) : prodL (ns ++ [n]) = prodL ns * n := by
  unfold prodL
  rw [List.foldl_append]
  rfl
theorem fold_pos : ∀ {ns : List Int} {a B : Int}, (∀ n ∈ ns, 1 ≤ n ∧ n ≤ B) → 1 ≤ a → 1 ≤ ns.foldl (fun p n => p * n) a ∧ ns.foldl (fun p n => p * n) a ≤ a * B ^ ns.length
  | [], a, B, _, h => by simp; exact h
  | n :: ns, a, B, h, ha => by
    have hn := h n List.mem_cons_self
    have h1 : 1 ≤ a * n := by
      have := Int.mul_le_mul ha hn.1 (by omega) (by omega)
      omega
    obtain ⟨g1, g2⟩ := fold_pos (ns := ns) (a := a * n) (B := B) (fun m hm => h m (List.mem_cons_of_mem _ hm)) h1
    refine ⟨g1, Int.le_trans g2 ?_⟩
    rw [List.length_cons, Int.pow_succ]
    have hB : 0 ≤ B ^ ns.length := Int.le_of_lt (Int.pow_pos (by omega))
    have e1 : a * n * B ^ ns.length ≤ a * B * B ^ ns.length := Int.mul_le_mul_of_nonneg_right (Int.mul_le_mul_of_nonneg_left hn.2 (by omega)) hB
    have e2 : a * B * B ^ ns.length = a * (B ^ ns.length * B) := by rw [Int.mul_assoc, Int.mul_comm B]
    omega
theorem prod_take {ns : List Int} {i : Nat} {n : Int} (h : ns[i]? = some n) : prodL (ns.take (i + 1)) = prodL (ns.take i) * n := by
  rw [take_more h, prod_snoc]
theorem prod_ok {ns : List Int} (ok : SzOk ns) (hB : ∀ n ∈ ns, n ≤ 10 ^ 27) (i : Nat) : 1 ≤ prodL (ns.take i) ∧ (prodL (ns.take i)).natAbs < 2 ^ 400 := by
  have hl : (ns.take i).length ≤ 4 := by
    rw [List.length_take]
    exact Nat.le_trans (Nat.min_le_right _ _) ok.le
  obtain ⟨h1, h2⟩ := fold_pos (ns := ns.take i) (a := 1) (B := 10 ^ 27) (fun n hn => ⟨ok.one n (List.mem_of_mem_take hn), hB n (List.mem_of_mem_take hn)⟩) (by decide)
  refine ⟨h1, ?_⟩
  have h3 : prodL (ns.take i) ≤ 1 * (10 ^ 27) ^ (ns.take i).length := h2
  have h4 : ((10 : Int) ^ 27) ^ (ns.take i).length ≤ (10 ^ 27) ^ 4 := by
    have : (ns.take i).length = 0 ∨ (ns.take i).length = 1 ∨ (ns.take i).length = 2 ∨ (ns.take i).length = 3 ∨ (ns.take i).length = 4 := by omega
    rcases this with e | e | e | e | e <;> rw [e] <;> decide
  have h5 : ((10 : Int) ^ 27) ^ 4 < 2 ^ 400 := by decide
  have h6 : prodL (ns.take i) < 2 ^ 400 := by omega
  have h7 : ((prodL (ns.take i)).natAbs : Int) = prodL (ns.take i) := Int.natAbs_of_nonneg (by have : 1 ≤ prodL (ns.take i) := h1; omega)
  have h8 : ((2 ^ 400 : Nat) : Int) = (2 : Int) ^ 400 := by simp
  omega
theorem big_abs {n : Int} (h1 : 1 ≤ n) (h2 : n ≤ 10 ^ 27) : n.natAbs < 2 ^ 100 := by
  have h5 : (10 : Int) ^ 27 < 2 ^ 100 := by decide
  have h8 : ((2 ^ 100 : Nat) : Int) = (2 : Int) ^ 100 := by simp
  omega
theorem prod_mul {ns : List Int} (ok : SzOk ns) (hB : ∀ n ∈ ns, n ≤ 10 ^ 27) {i : Nat} {n : Int} (h : ns[i]? = some n) : IntMulOk (prodL (ns.take i)) n :=
  (wide_mul (prod_ok ok hB i).2 (big_abs (ok.one n (List.mem_of_getElem? h)) (hB n (List.mem_of_getElem? h))) (by decide) (by decide) (by decide)).ok
theorem place_ok {n m r : Int} (m1 : 1 ≤ m) (m3 : m ≤ n) (r0 : 0 ≤ r) (r1 : r < m) : 0 ≤ r * (n / m) ∧ r * (n / m) < n := by
  have q1 : 1 ≤ n / m := (Int.le_ediv_iff_mul_le (by omega)).mpr (by omega)
  have q2 : m * (n / m) ≤ n := Int.mul_ediv_self_le (by omega)
  refine ⟨Int.mul_nonneg r0 (by omega), ?_⟩
  have q3 : r * (n / m) ≤ (m - 1) * (n / m) := Int.mul_le_mul_of_nonneg_right (by omega) (by omega)
  have q4 : (m - 1) * (n / m) = m * (n / m) - n / m := by rw [Int.sub_mul, Int.one_mul]
  omega
theorem call_bound {n r r2 v : Int} (n1 : 1 ≤ n) (n2 : n ≤ 10 ^ 27) (r0 : 0 ≤ r) (r1 : r < 7) (h0 : 0 ≤ r2) (h1 : r2 < 10 ^ (9 : Int).toNat) (mv : v ∈ [r - 3, n / 2, (r - 3) * n + (r - 3), 0 - r2 * 10 ^ (20 : Int).toNat]) : v.natAbs < 2 ^ 100 := by
  have e9 : (10 : Int) ^ (9 : Int).toNat = 1000000000 := by decide
  have e20 : (10 : Int) ^ (20 : Int).toNat = 100000000000000000000 := by decide
  have e27 : (10 : Int) ^ 27 = 1000000000000000000000000000 := by decide
  have e2 : (2 : Nat) ^ 100 = 1267650600228229401496703205376 := by decide
  rw [e9] at h1
  rw [e20] at mv
  rw [e27] at n2
  rw [e2]
  simp only [List.mem_cons, List.not_mem_nil, or_false] at mv
  rcases mv with rfl | rfl | rfl | rfl
  · omega
  · omega
  · have : r = 0 ∨ r = 1 ∨ r = 2 ∨ r = 3 ∨ r = 4 ∨ r = 5 ∨ r = 6 := by omega
    rcases this with rfl | rfl | rfl | rfl | rfl | rfl | rfl <;> omega
  · omega
section
variable {P : Program} {w : World} {K : PySem.W.Frag} {mg : Str → Option Value} {base : Heap}
def sp_law_seat : Sp := fun vs H Q _ => ∃ (s l : Addr) (ns : List Int), vs = [.ref s, .ref l] ∧ Src H s ∧ H l = some (.lst (ns.map V.int)) ∧ l ≠ s ∧ SzOk ns ∧ (∀ n ∈ ns, n ≤ 10 ^ 27) ∧
  ∀ (q : Addr) (ps : List Int) H2, H q = none → H2 q = some (.tup (ps.map V.int)) → SeatOk ns ps → XB s H H2 → Src H2 s → Q (.ref q) H2
theorem ok_law_seat (T : TX K mg) : FnOk P w K mg base CX0 3 T.f_law_seat T.fd_law_seat ["_law_source_here", "_law_sizes"] sp_law_seat := by
  refine T.F_law_seat.ok sc_law_seat (fun vs H Q E h => ?_) (fun cdv A outer s H vs Q E hr h => ?_)
  · obtain ⟨s, l, ns, rfl, _⟩ := h
    rfl
  · obtain ⟨s, l, ns, rfl, hs, hl, nl, ok, hB, k⟩ := h
    refine ⟨_, (pss_one (ps_ret (pe_callTy call_tuple_of (by rfl) T.z_tuple (by decide +kernel) (pa_cons (pe_lc (own := [("_law_size", 2)]) (g := (gName 2)) rfl sc_law_seat.nd (pi_list (pv 1)) (blkOk_by (N := N_law_seat) (sc := defScope s_law_seat) (by decide +kernel)) (fun _ _ _ _ _ => (pg_name (i := 2) sc_law_seat.nd rfl (Or.inl rfl))) (fun _ _ _ _ _ => pts_nil) (fun _ _ _ _ _ => (pe_op op_mulI (pe_call (ok_law_take T) hr rfl T.m_law_take T.F_law_take.kp T.b_law_take .nil pass0 (pa_cons (pv 0) (pa_cons (pe_callB (call_min2 rfl) (by rfl) T.z_min (by decide +kernel) (pa_cons (pv 2) (pa_cons (pe_op op_pow pe_int pe_int) pa_nil))) pa_nil))) (pe_op op_fdivW (pv 2) (pe_callB (call_min2 rfl) (by rfl) T.z_min (by decide +kernel) (pa_cons (pv 2) (pa_cons (pe_op op_pow pe_int pe_int) pa_nil))))))) pa_nil)))), ?_⟩
    refine ⟨_, rfl, l, rfl, ⟨_, SqL.of hl⟩, fun D hD => ?_⟩
    have nD : D ≠ s := hs.ne hD
    refine lc_it (walk_list (xs := ns.map V.int)) (fun i H2 => ∃ ps : List Int, H2 D = some (.lst (ps.map V.int)) ∧ SeatOk (ns.take i) ps ∧ XB s H H2 ∧ Src H2 s) ⟨[], upd_same, True.intro, XB.of (exn hD), hs.new hD⟩ (fun i H2 _ ⟨ps, _, _, xb, _⟩ => SqL.of (xb _ _ nl hl)) ?_ ?_
    · rintro i x H2 H3 hi ⟨ps, hD2, sk, xb, src⟩ ⟨rfl, hx⟩
      obtain ⟨n, hn, rfl⟩ := map_get hx
      have n1 := ok.one n (List.mem_of_getElem? hn)
      have n2 := hB n (List.mem_of_getElem? hn)
      have em : (if (10 : Int) ^ (9 : Int).toNat < n then (10 : Int) ^ (9 : Int).toNat else n) = min n 1000000000 := by
        have e9 : (10 : Int) ^ (9 : Int).toNat = 1000000000 := by decide
        rw [e9]
        split <;> omega
      refine ⟨rfl, _, rfl, _, rfl, _, _, rfl, rfl, ⟨by decide, by decide, by decide⟩, _, _, rfl, ?_⟩
      rw [em]
      have m1 : 1 ≤ min n 1000000000 := by omega
      have m2 : min n 1000000000 ≤ 1000000000 := by omega
      have m3 : min n 1000000000 ≤ n := by omega
      generalize hm : min n 1000000000 = m at m1 m2 m3 em
      have mb : m.natAbs < 2 ^ 100 := big_abs m1 (by have : (1000000000 : Int) ≤ 10 ^ 27 := by decide
                                                     omega)
      refine ⟨s, m, rfl, src, by omega, Nat.lt_of_lt_of_le mb (Nat.pow_le_pow_right (by decide) (by decide)), fun r H4 r0 r1 xb4 src4 => ?_⟩
      refine ⟨_, rfl, _, rfl, _, _, rfl, rfl, ⟨by decide, by decide, by decide⟩, _, _, rfl, ?_⟩
      rw [em]
      obtain ⟨p0, p1⟩ := place_ok m1 m3 r0 r1
      refine ⟨_, _, rfl, rfl, wide_div (by omega) mb (by decide) (by decide), _, _, rfl, rfl, mul_ok (.inl (by omega)), ps.map V.int, xb4 _ _ nD hD2, ?_, ps ++ [r * (n / m)], ?_, ?_, ?_, ?_⟩
      · have hl4 := ok.le
        have := sk.len
        rw [List.length_take] at this
        rw [List.length_map]
        exact Nat.lt_of_le_of_lt (show ps.length ≤ 4 by omega) (by decide)
      · rw [upd_same, List.map_append]
        rfl
      · rw [take_more hn]
        exact sk.snoc p0 p1
      · intro c o nc z
        rw [upd_ne (ne_of_none z hD)]
        exact xb4 c o nc (xb c o nc z)
      · obtain ⟨a, b, c, z⟩ := src4
        exact ⟨a, b, c, by rw [upd_ne nD.symm]; exact z⟩
    · rintro H2 ⟨ps, hD2, sk, xb, src⟩
      refine ⟨D, _, rfl, .inl ⟨SqL.of hD2, fun q hq => ?_⟩⟩
      rw [List.length_map, List.take_length] at sk
      have nq := src.ne hq
      exact k q ps _ (xb.back nq hq) upd_same sk (xb.trans (XB.of (exn hq))) (src.new hq)
def sp_Table_count (C : Addr) : Sp := fun vs H Q _ => ∃ (a : Addr) (ns : List Int), vs = [.ref a] ∧ TabAt C H a ns ∧ SzOk ns ∧ (∀ n ∈ ns, n ≤ 10 ^ 27) ∧ Q (.int (prodL ns)) H
theorem ok_Table_count (T : TX K mg) : FnOk P w K mg base CX0 1 T.f_Table_count T.fd_Table_count ["self"] (sp_Table_count T.C_Table) := by
  refine T.F_Table_count.ok sc_Table_count (fun vs H Q E h => ?_) (fun cdv A outer s H vs Q E hr h => ?_)
  · obtain ⟨a, ns, rfl, _⟩ := h
    rfl
  · obtain ⟨a, ns, rfl, ⟨dx, t, h1, h2⟩, ok, hB, k⟩ := h
    refine ⟨_, (pss_cons (ps_set (i := 1) sc_Table_count.nd rfl (Or.inl rfl) pe_int) (pss_cons (ps_for PassesOwn.never rfl (pi_tup (pe_fld (pv 0) rfl)) (pg_name (i := 2) sc_Table_count.nd rfl (Or.inl rfl)) (pss_one (ps_set (i := 1) sc_Table_count.nd rfl (Or.inl rfl) (pe_op op_mulI (pv 1) (pv 2))))) (pss_one (ps_ret (pv 1))))), ?_⟩
    refine ⟨_, rfl, a, _, dx, _, _, rfl, h1, T.cl_Table, T.n_Table_rings, rfl, t, rfl, ⟨_, SqT.of h2⟩, ?_⟩
    refine for_it (walk_tup (xs := ns.map V.int)) (fun i σ H2 => ∃ y : Option V, σ = [some (.ref a), some (.int (prodL (ns.take i))), y] ∧ H2 = H) ⟨none, rfl, rfl⟩ (fun i σ H2 _ ⟨_, _, e⟩ => by rw [e]; exact SqT.of h2) ?_ ?_
    · rintro i x σ H2 H3 hi ⟨y, rfl, rfl⟩ ⟨rfl, hx⟩
      obtain ⟨n, hn, rfl⟩ := map_get hx
      refine ⟨_, rfl, _, rfl, _, _, rfl, rfl, prod_mul ok hB hn, some (.int n), ?_, rfl⟩
      rw [prod_take hn]
      rfl
    · rintro σ H2 ⟨y, rfl, rfl⟩
      rw [List.length_map, List.take_length]
      exact ⟨_, rfl, k⟩
end

/-! ### data -/
mutual
theorem eqv_refl : ∀ d : PyData, d.canLay0 = true → PyData.eqv d d = true
  | .none, _ => by simp only [PyData.eqv]
  | .bool b, _ => by simp only [PyData.eqv, beq_self_eq_true]
  | .int i, _ => by simp only [PyData.eqv, beq_self_eq_true]
  | .str x, _ => by simp only [PyData.eqv, beq_self_eq_true]
  | .list xs, h => by
    simp only [PyData.canLay0] at h
    simp only [PyData.eqv]
    exact eqvAll_refl xs h
  | .tuple xs, h => by
    simp only [PyData.canLay0] at h
    simp only [PyData.eqv]
    exact eqvAll_refl xs h
  | .dict _, h => by simp [PyData.canLay0] at h
theorem eqvAll_refl : ∀ ds : List PyData, PyData.canLayAll0 ds = true → PyData.eqvAll ds ds = true
  | [], _ => by simp only [PyData.eqvAll]
  | d :: ds, h => by
    simp only [PyData.canLayAll0, Bool.and_eq_true] at h
    simp only [PyData.eqvAll, Bool.and_eq_true]
    exact ⟨eqv_refl d h.1, eqvAll_refl ds h.2⟩
end
/-- data of a depth below n, in a form that may be laid -/
def Sh (n : Nat) (d : PyData) : Prop := d.canLay0 = true ∧ d.depth ≤ n
theorem Sh.ok {d : PyData} (h : Sh 60 d) : SeqAt.shaped d = true := by
  unfold SeqAt.shaped
  rw [h.1, decide_eq_true (Nat.le_trans h.2 (by decide))]
  rfl
theorem sh_int {n : Nat} (i : Int) : Sh n (.int i) := ⟨by simp only [PyData.canLay0], by simp only [PyData.depth]; omega⟩
theorem sh_bool {n : Nat} (i : Bool) : Sh n (.bool i) := ⟨by simp only [PyData.canLay0], by simp only [PyData.depth]; omega⟩
theorem sh_none {n : Nat} : Sh n .none := ⟨by simp only [PyData.canLay0], by simp only [PyData.depth]; omega⟩
theorem sh_all {n : Nat} : ∀ {ds : List PyData}, (∀ d ∈ ds, Sh n d) → PyData.canLayAll0 ds = true ∧ PyData.depthAll ds ≤ n
  | [], _ => ⟨by simp only [PyData.canLayAll0], by simp only [PyData.depthAll]; omega⟩
  | d :: ds, h => by
    obtain ⟨h1, h2⟩ := h d List.mem_cons_self
    obtain ⟨g1, g2⟩ := sh_all fun x hx => h x (List.mem_cons_of_mem _ hx)
    refine ⟨by simp only [PyData.canLayAll0, h1, g1, Bool.and_self], ?_⟩
    simp only [PyData.depthAll]
    omega
theorem sh_tuple {n : Nat} {ds : List PyData} (h : ∀ d ∈ ds, Sh n d) : Sh (n + 1) (.tuple ds) := by
  obtain ⟨h1, h2⟩ := sh_all h
  exact ⟨by simp only [PyData.canLay0, h1], by simp only [PyData.depth]; omega⟩
theorem sh_list {n : Nat} {ds : List PyData} (h : ∀ d ∈ ds, Sh n d) : Sh (n + 1) (.list ds) := by
  obtain ⟨h1, h2⟩ := sh_all h
  exact ⟨by simp only [PyData.canLay0, h1], by simp only [PyData.depth]; omega⟩
theorem Sh.up {n m : Nat} {d : PyData} (h : Sh n d) (e : n ≤ m) : Sh m d := ⟨h.1, Nat.le_trans h.2 e⟩
/-- a tuple of ints -/
abbrev iT (ns : List Int) : PyData := .tuple (ns.map PyData.int)
theorem sh_ints {n : Nat} (ns : List Int) : Sh (n + 1) (iT ns) := sh_tuple fun d hd => by
  obtain ⟨i, _, rfl⟩ := List.mem_map.mp hd
  exact sh_int i
theorem dpall_ints {K : PySem.W.Frag} {H : Hp} : ∀ ns : List Int, DpAll K H (ns.map V.int) (ns.map PyData.int)
  | [] => .nil
  | n :: ns => .cons (.int n) (dpall_ints ns)
theorem dp_ints {K : PySem.W.Frag} {H : Hp} {a : Addr} {ns : List Int} (h : H a = some (.tup (ns.map V.int))) : Dp K H (.ref a) (iT ns) := .tup (SqT.of h) (dpall_ints ns)
theorem eqvAll_ints : ∀ ns ms : List Int, PyData.eqvAll (ns.map PyData.int) (ms.map PyData.int) = decide (ns = ms)
  | [], [] => by simp [PyData.eqvAll]
  | [], _ :: _ => by simp [PyData.eqvAll]
  | _ :: _, [] => by simp [PyData.eqvAll]
  | n :: ns, m :: ms => by
    have ih := eqvAll_ints ns ms
    simp only [List.map_cons, PyData.eqvAll, PyData.eqv, ih]
    by_cases h : n = m
    · subst h
      simp
    · have : (n == m) = false := by simpa using h
      rw [this]
      simp [h]
theorem eqv_ints (ns ms : List Int) : PyData.eqv (iT ns) (iT ms) = decide (ns = ms) := by
  simp only [PyData.eqv]
  exact eqvAll_ints ns ms
theorem sh_pair {n : Nat} {a b : PyData} (ha : Sh n a) (hb : Sh n b) : Sh (n + 1) (.tuple [a, b]) := sh_tuple fun d hd => by
  rcases List.mem_cons.mp hd with e | e
  · rw [e]; exact ha
  · rw [List.mem_singleton.mp e]; exact hb
theorem eqv_same {d : PyData} (h : Sh 60 d) : (!PyData.eqv d d) = false := by rw [eqv_refl d h.1]; rfl

/-- the greatest common divisor -/
abbrev gcdI (a b : Int) : Int := ((Int.gcd a b : Nat) : Int)
theorem gcd_pos2 {p n : Int} (h : 1 ≤ n) : 0 < Int.gcd p n := Int.gcd_pos_of_ne_zero_right _ (by omega)
theorem gcd_turn {a b : Int} (hb : b ≠ 0) : Int.gcd b (a % b) = Int.gcd a b := by
  rw [Int.gcd_comm b, Int.emod_def, Int.sub_eq_add_neg, ← Int.mul_neg, Int.gcd_add_mul_left_left]
theorem abs45 {n : Int} (h1 : 0 ≤ n) (h2 : n ≤ 10 ^ 45) : n.natAbs < 2 ^ 150 := by
  have h5 : (10 : Int) ^ 45 < 2 ^ 150 := by decide
  have h8 : ((2 ^ 150 : Nat) : Int) = (2 : Int) ^ 150 := by simp
  omega
section
variable {P : Program} {w : World} {K : PySem.W.Frag} {mg : Str → Option Value} {base : Heap}
def sp_greatest_common_divisor : Sp := fun vs H Q _ => ∃ a b : Int, vs = [.int a, .int b] ∧ 0 ≤ a ∧ 0 ≤ b ∧ Q (.int (gcdI a b)) H
theorem ok_greatest_common_divisor (T : TX K mg) : FnOk P w K mg base CX0 1 T.f_greatest_common_divisor T.fd_greatest_common_divisor ["first", "second"] sp_greatest_common_divisor := by
  refine T.F_greatest_common_divisor.ok sc_greatest_common_divisor (fun vs H Q E h => ?_) (fun cdv A outer s H vs Q E hr h => ?_)
  · obtain ⟨a, b, rfl, _⟩ := h
    rfl
  · obtain ⟨a0, b0, rfl, h1, h2, k⟩ := h
    refine ⟨_, (pss_cons (ps_while PassesOwn.never (pt_cmpR op_ne (pv 1) pe_int (nomark _)) (pss_one (ps_par (i := 0) (j := 1) rfl sc_greatest_common_divisor.nd rfl rfl (by decide) rfl rfl (pa_cons (pv 1) (pa_cons (pe_op op_mod (pv 0) (pv 1)) pa_nil)) (by rfl)))) (pss_one (ps_ret (pe_callB call_abs (by rfl) T.z_abs (by decide +kernel) (pa_cons (pv 0) pa_nil))))), ?_⟩
    refine ⟨fun m σ H2 => ∃ a b : Int, σ = [some (.int a), some (.int b)] ∧ H2 = H ∧ 0 ≤ a ∧ 0 ≤ b ∧ Int.gcd a b = Int.gcd a0 b0 ∧ m = b.toNat, ⟨_, a0, b0, rfl, rfl, h1, h2, rfl, rfl⟩, ?_⟩
    rintro m σ _ ⟨a, b, rfl, rfl, ha, hb, hg, rfl⟩
    refine ⟨_, rfl, rfl, _, rfl, ?_⟩
    by_cases hz : b = 0
    · subst hz
      refine itf (by simp) ⟨_, rfl, a, rfl, ?_⟩
      rw [if_neg (by omega)]
      have e : (Int.gcd a 0 : Nat) = a.natAbs := by simp
      have e2 : gcdI a0 b0 = a := by
        show ((Int.gcd a0 b0 : Nat) : Int) = a
        rw [← hg, e]
        omega
      rw [e2] at k
      exact k
    · refine itt (by rw [dec_int]; simp [hz]) ⟨_, fun _ _ h => h, ?_⟩
      have q1 := Int.emod_lt_of_pos a (show 0 < b by omega)
      have q2 := Int.emod_nonneg a hz
      exact ⟨_, rfl, _, rfl, _, rfl, _, _, rfl, rfl, (by show 0 < b; omega), _, _, rfl, _, (by show (a % b).toNat < b.toNat; omega), _, _, rfl, rfl, hb, q2, by rw [gcd_turn hz, hg], rfl⟩
end

section
variable {P : Program} {w : World} {K : PySem.W.Frag} {mg : Str → Option Value} {base : Heap}
def sp_law_gcd : Sp := fun vs H Q _ => ∃ a b : Int, vs = [.int a, .int b] ∧ 0 ≤ a ∧ 0 ≤ b ∧ Q (.int (gcdI a b)) H
theorem ok_law_gcd (T : TX K mg) : FnOk P w K mg base CX0 1 T.f_law_gcd T.fd_law_gcd ["_law_first", "_law_second"] sp_law_gcd := by
  refine T.F_law_gcd.ok sc_law_gcd (fun vs H Q E h => ?_) (fun cdv A outer s H vs Q E hr h => ?_)
  · obtain ⟨a, b, rfl, _⟩ := h
    rfl
  · obtain ⟨a0, b0, rfl, h1, h2, k⟩ := h
    refine ⟨_, (pss_cons (ps_while PassesOwn.never (pt_cmpR op_ne (pv 1) pe_int (nomark _)) (pss_one (ps_par (i := 0) (j := 1) rfl sc_law_gcd.nd rfl rfl (by decide) rfl rfl (pa_cons (pv 1) (pa_cons (pe_op op_mod (pv 0) (pv 1)) pa_nil)) (by rfl)))) (pss_one (ps_ret (pv 0)))), ?_⟩
    refine ⟨fun m σ H2 => ∃ a b : Int, σ = [some (.int a), some (.int b)] ∧ H2 = H ∧ 0 ≤ a ∧ 0 ≤ b ∧ Int.gcd a b = Int.gcd a0 b0 ∧ m = b.toNat, ⟨_, a0, b0, rfl, rfl, h1, h2, rfl, rfl⟩, ?_⟩
    rintro m σ _ ⟨a, b, rfl, rfl, ha, hb, hg, rfl⟩
    refine ⟨_, rfl, rfl, _, rfl, ?_⟩
    by_cases hz : b = 0
    · subst hz
      refine itf (by simp) ⟨_, rfl, ?_⟩
      have e : (Int.gcd a 0 : Nat) = a.natAbs := by simp
      have e2 : gcdI a0 b0 = a := by
        show ((Int.gcd a0 b0 : Nat) : Int) = a
        rw [← hg, e]
        omega
      rw [e2] at k
      exact k
    · refine itt (by rw [dec_int]; simp [hz]) ⟨_, fun _ _ h => h, ?_⟩
      have q1 := Int.emod_lt_of_pos a (show 0 < b by omega)
      have q2 := Int.emod_nonneg a hz
      exact ⟨_, rfl, _, rfl, _, rfl, _, _, rfl, rfl, (by show 0 < b; omega), _, _, rfl, _, (by show (a % b).toNat < b.toNat; omega), _, _, rfl, rfl, hb, q2, by rw [gcd_turn hz, hg], rfl⟩
end

/-! ### zip's rows, nested comprehensions, lists of tuples of ints -/
theorem yrow2 {xs ys : List V} {i : Nat} {H H2 : Hp} {x : V} (h : CZ.YRow [xs, ys] i H x H2) : ∃ (Ta : Addr) (a b : V), x = .ref Ta ∧ H Ta = none ∧ H2 = upd H Ta (.tup [a, b]) ∧ xs[i]? = some a ∧ ys[i]? = some b := by
  obtain ⟨Ta, vs, rfl, hT, rfl, r⟩ := h
  cases r with
  | cons r1 r =>
    cases r with
    | cons r2 r =>
      cases r
      exact ⟨Ta, _, _, rfl, hT, rfl, r1, r2⟩
theorem yrow3 {xs ys zs : List V} {i : Nat} {H H2 : Hp} {x : V} (h : CZ.YRow [xs, ys, zs] i H x H2) : ∃ (Ta : Addr) (a b c : V), x = .ref Ta ∧ H Ta = none ∧ H2 = upd H Ta (.tup [a, b, c]) ∧ xs[i]? = some a ∧ ys[i]? = some b ∧ zs[i]? = some c := by
  obtain ⟨Ta, vs, rfl, hT, rfl, r⟩ := h
  cases r with
  | cons r1 r =>
    cases r with
    | cons r2 r =>
      cases r with
      | cons r3 r =>
        cases r
        exact ⟨Ta, _, _, _, rfl, hT, rfl, r1, r2, r3⟩
theorem yints2 {xs ys : List Int} {i : Nat} {H H2 : Hp} {x : V} (h : CZ.YRow [xs.map V.int, ys.map V.int] i H x H2) : ∃ (Ta : Addr) (a b : Int), x = .ref Ta ∧ H Ta = none ∧ H2 = upd H Ta (.tup [.int a, .int b]) ∧ xs[i]? = some a ∧ ys[i]? = some b := by
  obtain ⟨Ta, a, b, rfl, hT, rfl, r1, r2⟩ := yrow2 h
  obtain ⟨p, hp, rfl⟩ := map_get r1
  obtain ⟨q, hq, rfl⟩ := map_get r2
  exact ⟨Ta, p, q, rfl, hT, rfl, hp, hq⟩
theorem yints3 {xs ys zs : List Int} {i : Nat} {H H2 : Hp} {x : V} (h : CZ.YRow [xs.map V.int, ys.map V.int, zs.map V.int] i H x H2) : ∃ (Ta : Addr) (a b c : Int), x = .ref Ta ∧ H Ta = none ∧ H2 = upd H Ta (.tup [.int a, .int b, .int c]) ∧ xs[i]? = some a ∧ ys[i]? = some b ∧ zs[i]? = some c := by
  obtain ⟨Ta, a, b, c, rfl, hT, rfl, r1, r2, r3⟩ := yrow3 h
  obtain ⟨p, hp, rfl⟩ := map_get r1
  obtain ⟨q, hq, rfl⟩ := map_get r2
  obtain ⟨r, hr, rfl⟩ := map_get r3
  exact ⟨Ta, p, q, r, rfl, hT, rfl, hp, hq, hr⟩
theorem all2 {K : PySem.W.Frag} {H : Hp} {p q : Bool × Addr} {xs ys : List V} (hp : CZ.SqK K H p xs) (hq : CZ.SqK K H q ys) : ∀ r ∈ [p, q], ∃ zs, CZ.SqK K H r zs := fun r hr => by
  rcases List.mem_cons.mp hr with e | hr
  · rw [e]; exact ⟨_, hp⟩
  · rw [List.mem_singleton.mp hr]; exact ⟨_, hq⟩
theorem all3 {K : PySem.W.Frag} {H : Hp} {p q t : Bool × Addr} {xs ys us : List V} (hp : CZ.SqK K H p xs) (hq : CZ.SqK K H q ys) (ht : CZ.SqK K H t us) : ∀ r ∈ [p, q, t], ∃ zs, CZ.SqK K H r zs := fun r hr => by
  rcases List.mem_cons.mp hr with e | hr
  · rw [e]; exact ⟨_, hp⟩
  · exact all2 hq ht r hr
theorem lens2 {xs ys : List V} {n : Nat} (h1 : xs.length = n) (h2 : ys.length = n) : ∀ zs ∈ [xs, ys], zs.length = n := fun zs hz => by
  rcases List.mem_cons.mp hz with e | hz
  · rw [e]; exact h1
  · rw [List.mem_singleton.mp hz]; exact h2
theorem lens3 {xs ys us : List V} {n : Nat} (h1 : xs.length = n) (h2 : ys.length = n) (h3 : us.length = n) : ∀ zs ∈ [xs, ys, us], zs.length = n := fun zs hz => by
  rcases List.mem_cons.mp hz with e | hz
  · rw [e]; exact h1
  · exact lens2 h2 h3 zs hz
theorem sqT {K : PySem.W.Frag} {H : Hp} {a : Addr} {xs : List V} (h : H a = some (.tup xs)) : CZ.SqK K H (true, a) xs := SqT.of h
theorem sqL {K : PySem.W.Frag} {H : Hp} {a : Addr} {xs : List V} (h : H a = some (.lst xs)) : CZ.SqK K H (false, a) xs := SqL.of h
section
variable {J : It} {n : Nat} {G : Hp → Prop} {Y : Nat → Hp → V → Hp → Prop}
/-- a comprehension of two loops: the outer -/
theorem lc2_it (w : Walk J n G Y) {g g1 : TG} {tt tt1 : TT} {te : TE} {wi1 : TI} {vs vs1 : List Nat} {σ : L2.St} {H1 : Hp} {D : Addr} {Qd : Hp → Prop} (Pv : Nat → Hp → Prop) (h0 : Pv 0 (upd H1 D (.lst []))) (hG : ∀ i H, i ≤ n → Pv i H → G H)
    (hs : ∀ i x H H2, i < n → Pv i H → Y i H x H2 → g x (wipe σ vs) H2 fun σ2 H2 => wipe σ2 vs = wipe σ vs ∧ tt σ2 H2 fun b H3 =>
      if b = true then wi1 σ2 H3 fun J1 H4 => ∃ W1 : Nat → Nat → Hp → Prop, (∃ m, W1 0 m H4) ∧ ∀ j k H, W1 j k H →
        (J1.stop j H ∧ Pv (i + 1) H) ∨ (J1.go j H ∧ ∃ Nx1 : Hp → Prop, (∀ H2, Nx1 H2 → ∃ k2, k2 < k ∧ W1 (j + 1) k2 H2) ∧ ∀ x H2, J1.yld j H x H2 → g1 x (wipe σ2 vs1) H2 fun σ3 H5 => wipe σ3 vs1 = wipe σ2 vs1 ∧ tt1 σ3 H5 fun b H6 =>
          if b = true then te σ3 H6 fun y H7 => ∃ acc, H7 D = some (.lst acc) ∧ acc.length < sizeLine ∧ Nx1 (upd H7 D (.lst (acc ++ [y]))) else Nx1 H6)
      else Pv (i + 1) H3) (hd : ∀ H, Pv n H → Qd H) :
    ∃ W : Nat → Nat → Hp → Prop, (∃ m, W 0 m (upd H1 D (.lst []))) ∧ ∀ i m H, W i m H →
      (J.stop i H ∧ Qd H) ∨ (J.go i H ∧ ∃ Nx : Hp → Prop, (∀ H2, Nx H2 → ∃ m2, m2 < m ∧ W (i + 1) m2 H2) ∧ ∀ x H2, J.yld i H x H2 → g x (wipe σ vs) H2 fun σ2 H2 => wipe σ2 vs = wipe σ vs ∧ tt σ2 H2 fun b H3 =>
        if b = true then wi1 σ2 H3 fun J1 H4 => ∃ W1 : Nat → Nat → Hp → Prop, (∃ m, W1 0 m H4) ∧ ∀ j k H, W1 j k H →
          (J1.stop j H ∧ Nx H) ∨ (J1.go j H ∧ ∃ Nx1 : Hp → Prop, (∀ H2, Nx1 H2 → ∃ k2, k2 < k ∧ W1 (j + 1) k2 H2) ∧ ∀ x H2, J1.yld j H x H2 → g1 x (wipe σ2 vs1) H2 fun σ3 H5 => wipe σ3 vs1 = wipe σ2 vs1 ∧ tt1 σ3 H5 fun b H6 =>
            if b = true then te σ3 H6 fun y H7 => ∃ acc, H7 D = some (.lst acc) ∧ acc.length < sizeLine ∧ Nx1 (upd H7 D (.lst (acc ++ [y]))) else Nx1 H6)
        else Nx H3) := by
  refine ⟨fun i m H => m = n - i ∧ i ≤ n ∧ Pv i H, ⟨n, by simp, Nat.zero_le _, h0⟩, ?_⟩
  rintro i m H ⟨rfl, hi, p⟩
  have q := hG i H hi p
  by_cases hlt : i < n
  · refine .inr ⟨w.goes i H hlt q, Pv (i + 1), fun H2 p2 => ⟨n - (i + 1), by omega, rfl, hlt, p2⟩, fun x H2 y => hs i x H H2 hlt p (w.yields i H x H2 hlt q y)⟩
  · have e : i = n := by omega
    subst e
    exact .inl ⟨w.stops H q, hd H p⟩
/-- .. the inner -/
theorem in_it (w : Walk J n G Y) {g1 : TG} {tt1 : TT} {te : TE} {vs1 : List Nat} {σ2 : L2.St} {H4 : Hp} {D : Addr} {Nx : Hp → Prop} (Pw : Nat → Hp → Prop) (h0 : Pw 0 H4) (hG : ∀ i H, i ≤ n → Pw i H → G H)
    (hs : ∀ j x H H2, j < n → Pw j H → Y j H x H2 → g1 x (wipe σ2 vs1) H2 fun σ3 H5 => wipe σ3 vs1 = wipe σ2 vs1 ∧ tt1 σ3 H5 fun b H6 =>
      if b = true then te σ3 H6 fun y H7 => ∃ acc, H7 D = some (.lst acc) ∧ acc.length < sizeLine ∧ Pw (j + 1) (upd H7 D (.lst (acc ++ [y]))) else Pw (j + 1) H6) (hd : ∀ H, Pw n H → Nx H) :
    ∃ W1 : Nat → Nat → Hp → Prop, (∃ m, W1 0 m H4) ∧ ∀ j k H, W1 j k H →
      (J.stop j H ∧ Nx H) ∨ (J.go j H ∧ ∃ Nx1 : Hp → Prop, (∀ H2, Nx1 H2 → ∃ k2, k2 < k ∧ W1 (j + 1) k2 H2) ∧ ∀ x H2, J.yld j H x H2 → g1 x (wipe σ2 vs1) H2 fun σ3 H5 => wipe σ3 vs1 = wipe σ2 vs1 ∧ tt1 σ3 H5 fun b H6 =>
        if b = true then te σ3 H6 fun y H7 => ∃ acc, H7 D = some (.lst acc) ∧ acc.length < sizeLine ∧ Nx1 (upd H7 D (.lst (acc ++ [y]))) else Nx1 H6) := by
  refine ⟨fun i m H => m = n - i ∧ i ≤ n ∧ Pw i H, ⟨n, by simp, Nat.zero_le _, h0⟩, ?_⟩
  rintro i m H ⟨rfl, hi, p⟩
  have q := hG i H hi p
  by_cases hlt : i < n
  · refine .inr ⟨w.goes i H hlt q, Pw (i + 1), fun H2 p2 => ⟨n - (i + 1), by omega, rfl, hlt, p2⟩, fun x H2 y => hs i x H H2 hlt p (w.yields i H x H2 hlt q y)⟩
  · have e : i = n := by omega
    subst e
    exact .inl ⟨w.stops H q, hd H p⟩
end
/-- refs of tuples of ints -/
def RowsR (H : Hp) (xs : List V) (hss : List (List Int)) : Prop := Paired (fun x hs => ∃ r, x = V.ref r ∧ H r = some (.tup (hs.map V.int))) xs hss
theorem RowsR.mono {H H2 : Hp} (e : Ex H H2) : ∀ {xs : List V} {hss : List (List Int)}, RowsR H xs hss → RowsR H2 xs hss
  | _, _, .nil => .nil
  | _, _, .cons ⟨r, h1, h2⟩ t => .cons ⟨r, h1, e _ _ h2⟩ (RowsR.mono e t)
theorem RowsR.snoc {H : Hp} {r : Addr} {hs : List Int} (h : H r = some (.tup (hs.map V.int))) : ∀ {xs : List V} {hss : List (List Int)}, RowsR H xs hss → RowsR H (xs ++ [.ref r]) (hss ++ [hs])
  | _, _, .nil => .cons ⟨r, rfl, h⟩ .nil
  | _, _, .cons q t => .cons q (RowsR.snoc h t)
theorem RowsR.app {H : Hp} {ys : List V} {kss : List (List Int)} (h : RowsR H ys kss) : ∀ {xs : List V} {hss : List (List Int)}, RowsR H xs hss → RowsR H (xs ++ ys) (hss ++ kss)
  | _, _, .nil => h
  | _, _, .cons q t => .cons q (RowsR.app h t)
theorem RowsR.len {H : Hp} : ∀ {xs : List V} {hss : List (List Int)}, RowsR H xs hss → xs.length = hss.length
  | _, _, .nil => rfl
  | _, _, .cons _ t => by rw [List.length_cons, List.length_cons, RowsR.len t]
theorem RowsR.get {H : Hp} : ∀ {xs : List V} {hss : List (List Int)} {i : Nat} {x : V}, RowsR H xs hss → xs[i]? = some x → ∃ hs r, hss[i]? = some hs ∧ x = V.ref r ∧ H r = some (.tup (hs.map V.int))
  | _, _, _, _, .nil, h => by simp at h
  | _, _, 0, _, .cons ⟨r, e, q⟩ _, h => by
    simp only [List.length_cons, Nat.zero_lt_succ, List.getElem?_eq_getElem, List.getElem_cons_zero, Option.some.injEq] at h
    subst h
    exact ⟨_, r, rfl, e, q⟩
  | _, _, i + 1, _, .cons _ t, h => by
    rw [List.getElem?_cons_succ] at h ⊢
    exact RowsR.get t h
theorem RowsR.dp {K : PySem.W.Frag} {H : Hp} : ∀ {xs : List V} {hss : List (List Int)}, RowsR H xs hss → DpAll K H xs (hss.map iT)
  | _, _, .nil => .nil
  | _, _, .cons ⟨r, e, q⟩ t => by
    subst e
    exact .cons (dp_ints q) (RowsR.dp t)
/-- a list of tuples of ints -/
def RowsAt (H : Hp) (D : Addr) (hss : List (List Int)) : Prop := ∃ xs, H D = some (.lst xs) ∧ RowsR H xs hss
theorem RowsAt.mono {H H2 : Hp} {D : Addr} {hss : List (List Int)} (e : Ex H H2) (h : RowsAt H D hss) : RowsAt H2 D hss := by
  obtain ⟨xs, h1, h2⟩ := h
  exact ⟨xs, e _ _ h1, h2.mono e⟩
theorem RowsAt.dp {K : PySem.W.Frag} {H : Hp} {D : Addr} {hss : List (List Int)} (h : RowsAt H D hss) : Dp K H (.ref D) (.list (hss.map iT)) := by
  obtain ⟨xs, h1, h2⟩ := h
  exact .lst (SqL.of h1) h2.dp
theorem sh_rows {n : Nat} (hss : List (List Int)) : Sh (n + 2) (.list (hss.map iT)) := sh_list fun d hd => by
  obtain ⟨hs, _, rfl⟩ := List.mem_map.mp hd
  exact sh_ints hs
theorem eqvAll_rows : ∀ ns ms : List (List Int), PyData.eqvAll (ns.map iT) (ms.map iT) = decide (ns = ms)
  | [], [] => by simp [PyData.eqvAll]
  | [], _ :: _ => by simp [PyData.eqvAll]
  | _ :: _, [] => by simp [PyData.eqvAll]
  | n :: ns, m :: ms => by
    have ih := eqvAll_rows ns ms
    simp only [List.map_cons, PyData.eqvAll, eqv_ints, ih]
    by_cases h : n = m
    · subst h
      simp
    · simp [h]
theorem eqv_rows (ns ms : List (List Int)) : PyData.eqv (.list (ns.map iT)) (.list (ms.map iT)) = decide (ns = ms) := by
  simp only [PyData.eqv]
  exact eqvAll_rows ns ms
theorem RowsR.upd {H : Hp} {D : Addr} {acc : List V} {o : HO} (hD : H D = some (.lst acc)) : ∀ {xs : List V} {hss : List (List Int)}, RowsR H xs hss → RowsR (upd H D o) xs hss
  | _, _, .nil => .nil
  | _, _, .cons ⟨r, h1, h2⟩ t => .cons ⟨r, h1, by rw [upd_ne (ne_of h2 hD (by intro z; cases z))]; exact h2⟩ (RowsR.upd hD t)
theorem rows_push {H : Hp} {D u : Addr} {hss : List (List Int)} {ks : List Int} (h : RowsAt H D hss) (hu : H u = some (.tup (ks.map V.int))) : ∃ acc, H D = some (.lst acc) ∧ acc.length = hss.length ∧ RowsAt (upd H D (.lst (acc ++ [.ref u]))) D (hss ++ [ks]) := by
  obtain ⟨xs, h1, h2⟩ := h
  refine ⟨xs, h1, h2.len, _, upd_same, ?_⟩
  exact RowsR.snoc (by rw [upd_ne (ne_of hu h1 (by intro z; cases z))]; exact hu) (h2.upd h1)
theorem ex_upd {H H2 : Hp} {D : Addr} {o : HO} (e : Ex H H2) (hD : H D = none) : Ex H (upd H2 D o) := fun c u z => by
  rw [upd_ne (ne_of_none z hD)]
  exact e c u z
theorem ext {H H1 H2 : Hp} (a : Ex H H1) (b : Ex H1 H2) : Ex H H2 := fun c o z => b c o (a c o z)

/-! ### the order of a seat -/
def perN (p n : Int) : Nat := n.natAbs / Int.gcd p n
def ordF (zs : List (Int × Int)) : Nat := zs.foldl (fun l z => Nat.lcm l (perN z.1 z.2)) 1
theorem per_int {p n : Int} (h : 1 ≤ n) : n / gcdI p n = (perN p n : Int) := by
  have e : (n.natAbs : Int) = n := Int.natAbs_of_nonneg (by omega)
  unfold perN
  rw [Int.natCast_ediv, e]
theorem per_pos {p n : Int} (h : 1 ≤ n) : 0 < perN p n := by
  unfold perN
  refine Nat.div_pos ?_ (gcd_pos2 h)
  have := Int.gcd_dvd_right p n
  have h2 : (Int.gcd p n : Int) ≤ n := Int.le_of_dvd (by omega) this
  omega
theorem per_le {p n : Int} : perN p n ≤ n.natAbs := Nat.div_le_self _ _
theorem lcm_int {l m : Nat} : (l : Int) / gcdI l m * m = ((Nat.lcm l m : Nat) : Int) := by
  show (l : Int) / ((Nat.gcd l m : Nat) : Int) * m = _
  rw [← Int.natCast_ediv, ← Int.natCast_mul, Nat.lcm, Nat.div_mul_right_comm (Nat.gcd_dvd_left l m)]
theorem ord_snoc (zs : List (Int × Int)) (z : Int × Int) : ordF (zs ++ [z]) = Nat.lcm (ordF zs) (perN z.1 z.2) := by
  unfold ordF
  rw [List.foldl_append]
  rfl
theorem lcm_fold : ∀ {zs : List (Int × Int)} {a B : Nat}, 0 < a → (∀ z ∈ zs, 1 ≤ z.2 ∧ z.2.natAbs ≤ B) → 0 < zs.foldl (fun l z => Nat.lcm l (perN z.1 z.2)) a ∧ zs.foldl (fun l z => Nat.lcm l (perN z.1 z.2)) a ≤ a * B ^ zs.length
  | [], a, B, h, _ => by simp; exact h
  | z :: zs, a, B, h, hz => by
    have h1 := hz z List.mem_cons_self
    have h2 : 0 < Nat.lcm a (perN z.1 z.2) := Nat.lcm_pos h (per_pos h1.1)
    obtain ⟨g1, g2⟩ := lcm_fold (zs := zs) (B := B) h2 fun y hy => hz y (List.mem_cons_of_mem _ hy)
    refine ⟨g1, Nat.le_trans g2 ?_⟩
    have h3 : Nat.lcm a (perN z.1 z.2) ≤ a * B := Nat.le_trans (Nat.div_le_self _ _) (Nat.mul_le_mul_left _ (Nat.le_trans per_le h1.2))
    calc _ ≤ a * B * B ^ zs.length := Nat.mul_le_mul_right _ h3
      _ = a * B ^ (zs.length + 1) := by rw [Nat.pow_succ, Nat.mul_assoc, Nat.mul_comm B]
theorem ord_ok {zs : List (Int × Int)} (h : ∀ z ∈ zs, 1 ≤ z.2 ∧ z.2 ≤ 10 ^ 45) (hl : zs.length ≤ 4) : 0 < ordF zs ∧ ordF zs < 2 ^ 600 := by
  obtain ⟨g1, g2⟩ := lcm_fold (zs := zs) (a := 1) (B := 10 ^ 45) (by decide) fun z hz => ⟨(h z hz).1, by
    have := h z hz
    have e : ((10 ^ 45 : Nat) : Int) = (10 : Int) ^ 45 := by simp
    omega⟩
  refine ⟨g1, Nat.lt_of_le_of_lt g2 ?_⟩
  rw [Nat.one_mul]
  exact Nat.lt_of_le_of_lt (Nat.pow_le_pow_right (by decide) hl) (by decide +kernel)
theorem zip_at {α β : Type} {l : List α} {m : List β} {i : Nat} {x : α} {y : β} (h1 : l[i]? = some x) (h2 : m[i]? = some y) : (l.zip m)[i]? = some (x, y) := by
  rw [List.getElem?_zip_eq_some]
  exact ⟨h1, h2⟩
theorem zip_len {α β : Type} {l : List α} {m : List β} {n : Nat} (h1 : l.length = n) (h2 : m.length = n) : (l.zip m).length = n := by
  rw [List.length_zip, h1, h2, Nat.min_self]
theorem zip_take_len {α β : Type} {l : List α} {m : List β} {n : Nat} (h1 : l.length = n) (h2 : m.length = n) : (l.zip m).take n = l.zip m := List.take_of_length_le (by rw [zip_len h1 h2]; exact Nat.le_refl _)
/-- sizes that are not too long -/
abbrev SzB (ns : List Int) : Prop := ∀ n ∈ ns, n ≤ 10 ^ 45
theorem SeatOk.at : ∀ {ns ps : List Int} {i : Nat} {n p : Int}, SeatOk ns ps → ns[i]? = some n → ps[i]? = some p → 0 ≤ p ∧ p < n
  | [], [], _, _, _, _, h, _ => by simp at h
  | n :: ns, p :: ps, 0, _, _, h, h1, h2 => by
    simp at h1 h2
    subst h1 h2
    exact h.1
  | n :: ns, p :: ps, i + 1, _, _, h, h1, h2 => by
    rw [List.getElem?_cons_succ] at h1 h2
    exact SeatOk.at h.2 h1 h2
theorem zip_bound {ns ps : List Int} (ok : SzOk ns) (hB : SzB ns) (i : Nat) : ∀ z ∈ (ps.zip ns).take i, 1 ≤ z.2 ∧ z.2 ≤ 10 ^ 45 := fun z hz => by
  have := (List.of_mem_zip (show (z.1, z.2) ∈ ps.zip ns from List.mem_of_mem_take hz)).2
  exact ⟨ok.one _ this, hB _ this⟩
theorem abs_succ {n : Int} (h : n.natAbs < 2 ^ 150) : (n + 1).natAbs < 2 ^ 151 := by
  have : (2 : Nat) ^ 151 = 2 * 2 ^ 150 := by decide +kernel
  omega
/-- the halves of a place -/
def halfL (p n : Int) : List Int := if n % 2 = 1 then [p * (n + 1) / 2 % n] else if p % 2 = 0 then [p / 2, (p + n) / 2] else []
theorem halfL_def (p n : Int) : halfL p n = if n % 2 = 1 then [p * (n + 1) / 2 % n] else if p % 2 = 0 then [p / 2, (p + n) / 2] else [] := rfl
/-- .. of a seat -/
def crossL (hss : List (List Int)) (ks : List Int) : List (List Int) := hss.flatMap fun hs => ks.map fun k => hs ++ [k]
def halvesF (zs : List (Int × Int)) : List (List Int) := zs.foldl (fun hss z => crossL hss (halfL z.1 z.2)) [[]]
theorem halves_snoc (zs : List (Int × Int)) (z : Int × Int) : halvesF (zs ++ [z]) = crossL (halvesF zs) (halfL z.1 z.2) := by
  unfold halvesF
  rw [List.foldl_append]
  rfl
theorem cross_snoc (hss : List (List Int)) (hs ks : List Int) : crossL (hss ++ [hs]) ks = crossL hss ks ++ ks.map fun k => hs ++ [k] := by
  unfold crossL
  rw [List.flatMap_append]
  simp
theorem cross_len (ks : List Int) : ∀ hss : List (List Int), (crossL hss ks).length = hss.length * ks.length
  | [] => by simp [crossL]
  | h :: hss => by
    have ih := cross_len ks hss
    unfold crossL at ih ⊢
    rw [List.flatMap_cons, List.length_append, ih, List.length_map, List.length_cons, Nat.succ_mul, Nat.add_comm]
theorem half_len (p n : Int) : (halfL p n).length ≤ 2 := by
  unfold halfL
  split
  · simp
  · split <;> simp
theorem halves_len : ∀ (zs : List (Int × Int)) (hss : List (List Int)), (zs.foldl (fun hss z => crossL hss (halfL z.1 z.2)) hss).length ≤ hss.length * 2 ^ zs.length
  | [], hss => by simp
  | z :: zs, hss => by
    refine Nat.le_trans (halves_len zs _) ?_
    rw [cross_len, List.length_cons, Nat.pow_succ, Nat.mul_comm (2 ^ zs.length), ← Nat.mul_assoc]
    exact Nat.mul_le_mul_right _ (Nat.mul_le_mul_left _ (half_len _ _))
theorem halves_few {zs : List (Int × Int)} (h : zs.length ≤ 4) : (halvesF zs).length ≤ 16 := by
  have := halves_len zs [[]]
  refine Nat.le_trans this ?_
  rw [List.length_singleton, Nat.one_mul]
  exact Nat.pow_le_pow_right (by decide) h
theorem halves_rows : ∀ (zs : List (Int × Int)) (hss : List (List Int)) (m : Nat), (∀ hs ∈ hss, hs.length = m) → ∀ hs ∈ zs.foldl (fun hss z => crossL hss (halfL z.1 z.2)) hss, hs.length = m + zs.length
  | [], hss, m, h => h
  | z :: zs, hss, m, h => fun hs hh => by
    have := halves_rows zs (crossL hss (halfL z.1 z.2)) (m + 1) (fun ks hk => ?_) hs hh
    · rw [this, List.length_cons]
      omega
    · obtain ⟨us, hu, hk⟩ := List.mem_flatMap.mp hk
      obtain ⟨k, _, rfl⟩ := List.mem_map.mp hk
      rw [List.length_append, h us hu]
      rfl
section
variable {P : Program} {w : World} {K : PySem.W.Frag} {mg : Str → Option Value} {base : Heap}
def sp_Table_order (C : Addr) : Sp := fun vs H Q _ => ∃ (a s : Addr) (ns ps : List Int), vs = [.ref a, .ref s] ∧ TabAt C H a ns ∧ SzOk ns ∧ SzB ns ∧ H s = some (.tup (ps.map V.int)) ∧ SeatOk ns ps ∧ ∀ H2, Ex H H2 → Q (.int (ordF (ps.zip ns))) H2
theorem ok_Table_order (T : TX K mg) : FnOk P w K mg base CX0 5 T.f_Table_order T.fd_Table_order ["self", "seat"] (sp_Table_order T.C_Table) := by
  refine T.F_Table_order.ok sc_Table_order (fun vs H Q E h => ?_) (fun cdv A outer s H vs Q E hr h => ?_)
  · obtain ⟨a, s, ns, ps, rfl, _⟩ := h
    rfl
  · obtain ⟨a, s, ns, ps, rfl, tab, ok, hB, hs, sk, k⟩ := h
    have l4 := ok.le
    have lp := sk.len
    refine ⟨_, (pss_cons (ps_expr (pe_call (ok_require_seat T) hr rfl T.m_require_seat T.F_require_seat.kp T.b_require_seat .nil pass0 (pa_cons (pv 0) (pa_cons (pv 1) pa_nil)))) (pss_cons (ps_set (i := 2) sc_Table_order.nd rfl (Or.inl rfl) pe_int) (pss_cons (ps_for PassesOwn.never rfl (CZ.pi_z2s (fl := [true, true]) rfl (by rfl) T.z_zip (pa_cons (pv 1) (pa_cons (pe_fld (pv 0) rfl) pa_nil))) (pg_tup rfl (pgs_cons (pg_name (i := 3) sc_Table_order.nd rfl (Or.inl rfl)) (pgs_cons (pg_name (i := 4) sc_Table_order.nd rfl (Or.inl rfl)) pgs_nil))) (pss_cons (ps_set (i := 5) sc_Table_order.nd rfl (Or.inl rfl) (pe_op op_fdivW (pv 4) (pe_call (ok_greatest_common_divisor T) (hr.mono (by decide)) rfl T.m_greatest_common_divisor T.F_greatest_common_divisor.kp T.b_greatest_common_divisor .nil pass0 (pa_cons (pv 3) (pa_cons (pv 4) pa_nil))))) (pss_one (ps_set (i := 2) sc_Table_order.nd rfl (Or.inl rfl) (pe_op op_mulI (pe_op op_fdivW (pv 2) (pe_call (ok_greatest_common_divisor T) (hr.mono (by decide)) rfl T.m_greatest_common_divisor T.F_greatest_common_divisor.kp T.b_greatest_common_divisor .nil pass0 (pa_cons (pv 2) (pa_cons (pv 5) pa_nil)))) (pv 5)))))) (pss_one (ps_ret (pv 2)))))), ?_⟩
    refine ⟨_, rfl, _, rfl, a, _, ns, _, rfl, tab, l4, TupA.ints hs (by omega), isSeat_ok sk, fun H1 e1 => ?_⟩
    obtain ⟨dx, t, h1, h2⟩ := tab.mono e1
    have hs1 := e1 _ _ hs
    refine ⟨_, rfl, _, rfl, a, _, dx, _, _, rfl, h1, T.cl_Table, T.n_Table_rings, rfl, [s, t], rfl, rfl, all2 (sqT hs1) (sqT h2), ?_⟩
    refine for_it (CZ.walk_rows (xss := [ps.map V.int, ns.map V.int]) (n := ns.length) (lens2 (by rw [List.length_map, lp]) (by rw [List.length_map]))) (fun i σ H2 => ∃ y1 y2 y3 : Option V, σ = [some (.ref a), some (.ref s), some (.int (ordF ((ps.zip ns).take i))), y1, y2, y3] ∧ Ex H1 H2) ⟨_, _, _, rfl, exr⟩ (fun i σ H2 _ ⟨_, _, _, _, e⟩ => .cons (sqT (e _ _ hs1)) (.cons (sqT (e _ _ h2)) .nil)) ?_ ?_
    · rintro i x σ H2 H3 hi ⟨y1, y2, y3, rfl, e2⟩ yy
      obtain ⟨Ta, p, n, rfl, hT, rfl, hp, hn⟩ := yints2 yy
      have n1 := ok.one n (List.mem_of_getElem? hn)
      have n2 := hB n (List.mem_of_getElem? hn)
      obtain ⟨p0, p1⟩ := sk.at hn hp
      have lt : ((ps.zip ns).take i).length ≤ 4 := by
        rw [List.length_take, zip_len lp rfl]
        omega
      obtain ⟨o1, o2⟩ := ord_ok (zip_bound ok hB i) lt
      have ezs := take_more (zip_at hp hn)
      refine ⟨Ta, _, rfl, SqT.of upd_same, rfl, _, _, rfl, _, _, rfl, rfl, ?_⟩
      have g0 : (0 : Int) < gcdI p n := by
        have := gcd_pos2 (p := p) n1
        show (0 : Int) < ((Int.gcd p n : Nat) : Int)
        omega
      have gle : gcdI p n ≤ n := Int.le_of_dvd (by omega) (Int.gcd_dvd_right p n)
      refine ⟨_, rfl, _, rfl, _, rfl, p, n, rfl, p0, (by omega), _, _, rfl, rfl, wide_div g0 (abs45 (by omega) (by omega)) (by decide) (by decide), ?_⟩
      have q0 := per_pos (p := p) n1
      have q1 := per_le (p := p) (n := n)
      have q2 : perN p n < 2 ^ 150 := Nat.lt_of_le_of_lt q1 (abs45 (by omega) n2)
      dsimp only
      rw [per_int n1]
      have r0 : 0 < Nat.gcd (ordF ((ps.zip ns).take i)) (perN p n) := Nat.gcd_pos_of_pos_left _ o1
      have r1 : Nat.gcd (ordF ((ps.zip ns).take i)) (perN p n) ≤ perN p n := Nat.gcd_le_right _ q0
      refine ⟨_, rfl, _, rfl, _, rfl, _, _, rfl, Int.natCast_nonneg _, Int.natCast_nonneg _, _, _, rfl, rfl, wide_div (b := 150) ?_ ?_ (by decide) (by decide), _, rfl, _, _, rfl, rfl, (wide_mul (a := 600) (b := 150) ?_ ?_ (by decide) (by decide) (by decide)).ok, ?_⟩
      · show (0 : Int) < ((Nat.gcd (ordF ((ps.zip ns).take i)) (perN p n) : Nat) : Int)
        omega
      · show ((Nat.gcd (ordF ((ps.zip ns).take i)) (perN p n) : Nat) : Int).natAbs < 2 ^ 150
        rw [Int.natAbs_natCast]
        exact Nat.lt_of_le_of_lt r1 q2
      · show ((ordF ((ps.zip ns).take i) : Int) / ((Nat.gcd (ordF ((ps.zip ns).take i)) (perN p n) : Nat) : Int)).natAbs < 2 ^ 600
        rw [← Int.natCast_ediv, Int.natAbs_natCast]
        exact Nat.lt_of_le_of_lt (Nat.div_le_self _ _) o2
      · rw [Int.natAbs_natCast]
        exact q2
      · dsimp only
        rw [lcm_int]
        rw [ezs, ord_snoc]
        exact ⟨_, _, _, rfl, fun c o z => exn hT _ _ (e2 c o z)⟩
    · rintro σ H2 ⟨y1, y2, y3, rfl, e2⟩
      rw [zip_take_len lp rfl]
      exact ⟨_, rfl, k _ fun c o z => e2 c o (e1 c o z)⟩
def sp_half_places : Sp := fun vs H Q _ => ∃ p n : Int, vs = [.int p, .int n] ∧ 0 ≤ p ∧ p < n ∧ n ≤ 10 ^ 45 ∧ ∀ q H2, Ex H H2 → H q = none → H2 q = some (.lst ((halfL p n).map V.int)) → Q (.ref q) H2
theorem ok_half_places (T : TX K mg) : FnOk P w K mg base CX0 1 T.f_half_places T.fd_half_places ["place", "size"] sp_half_places := by
  refine T.F_half_places.ok sc_half_places (fun vs H Q E h => ?_) (fun cdv A outer s H vs Q E hr h => ?_)
  · obtain ⟨p, n, rfl, _⟩ := h
    rfl
  · obtain ⟨p, n, rfl, p0, p1, n2, k⟩ := h
    refine ⟨_, (pss_cons (ps_if (pt_cmpR op_eq (pe_op op_mod (pv 1) pe_int) pe_int (nomark _)) (pss_one (ps_ret (pe_lst (pa_cons (pe_op op_mod (pe_op op_fdivW (pe_op op_mulI (pv 0) (pe_op op_add (pv 1) pe_int)) pe_int) (pv 1)) pa_nil)))) pss_nil) (pss_one (ps_ret (pe_ifExp (pt_cmpR op_eq (pe_op op_mod (pv 0) pe_int) pe_int (nomark _)) (pe_lst (pa_cons (pe_op op_fdivW (pv 0) pe_int) (pa_cons (pe_op op_fdivW (pe_op op_add (pv 0) (pv 1)) pe_int) pa_nil))) (pe_lst pa_nil))))), ?_⟩
    refine ⟨_, rfl, _, _, rfl, rfl, (by show (0 : Int) < 2; decide), rfl, _, rfl, ?_⟩
    rw [dec_int]
    have e := halfL_def p n
    by_cases h : n % 2 = 1
    · rw [if_pos h] at e
      refine itt (by simp [h]) ?_
      refine ⟨_, rfl, _, rfl, _, _, rfl, rfl, _, _, rfl, rfl, (wide_mul (abs45 p0 (by omega)) (abs45 (n := n) (by omega) n2 |> abs_succ) (by decide) (by decide) (by decide)).ok, _, _, rfl, rfl, ⟨by decide, by decide +kernel⟩, _, rfl, _, _, rfl, rfl, (by show (0 : Int) < n; omega), (by show 1 ≤ sizeLine; decide), fun q hq => ?_⟩
      exact k q _ (exn hq) hq (by rw [upd_same, e]; rfl)
    · rw [if_neg h] at e
      refine itf (by simp [h]) ?_
      refine ⟨_, rfl, _, _, rfl, rfl, (by show (0 : Int) < 2; decide), rfl, _, rfl, ?_⟩
      rw [dec_int]
      by_cases h2 : p % 2 = 0
      · rw [if_pos h2] at e
        refine itt (by simp [h2]) ?_
        refine ⟨_, rfl, _, _, rfl, rfl, ⟨by decide, by decide +kernel⟩, _, rfl, _, rfl, _, _, rfl, rfl, _, _, rfl, rfl, ⟨by decide, by decide +kernel⟩, (by show 2 ≤ sizeLine; decide), fun q hq => ?_⟩
        exact k q _ (exn hq) hq (by rw [upd_same, e]; rfl)
      · rw [if_neg h2] at e
        refine itf (by simp [h2]) ?_
        refine ⟨(by show 0 ≤ sizeLine; decide), fun q hq => ?_⟩
        exact k q _ (exn hq) hq (by rw [upd_same, e]; rfl)
def sp_Table_halves (C : Addr) : Sp := fun vs H Q _ => ∃ (a s : Addr) (ns ps : List Int), vs = [.ref a, .ref s] ∧ TabAt C H a ns ∧ SzOk ns ∧ SzB ns ∧ H s = some (.tup (ps.map V.int)) ∧ SeatOk ns ps ∧ ∀ q H2, Ex H H2 → H q = none → RowsAt H2 q (halvesF (ps.zip ns)) → Q (.ref q) H2
theorem ok_Table_halves (T : TX K mg) : FnOk P w K mg base CX0 5 T.f_Table_halves T.fd_Table_halves ["self", "seat"] (sp_Table_halves T.C_Table) := by
  refine T.F_Table_halves.ok sc_Table_halves (fun vs H Q E h => ?_) (fun cdv A outer s H vs Q E hr h => ?_)
  · obtain ⟨a, s, ns, ps, rfl, _⟩ := h
    rfl
  · obtain ⟨a, s, ns, ps, rfl, tab, ok, hB, hs, sk, k⟩ := h
    have l4 := ok.le
    have lp := sk.len
    refine ⟨_, (pss_cons (ps_expr (pe_call (ok_require_seat T) hr rfl T.m_require_seat T.F_require_seat.kp T.b_require_seat .nil pass0 (pa_cons (pv 0) (pa_cons (pv 1) pa_nil)))) (pss_cons (ps_set (i := 2) sc_Table_halves.nd rfl (Or.inl rfl) (pe_lst (pa_cons (pe_tup pa_nil) pa_nil))) (pss_cons (ps_for PassesOwn.never rfl (CZ.pi_z2s (fl := [true, true]) rfl (by rfl) T.z_zip (pa_cons (pv 1) (pa_cons (pe_fld (pv 0) rfl) pa_nil))) (pg_tup rfl (pgs_cons (pg_name (i := 3) sc_Table_halves.nd rfl (Or.inr rfl)) (pgs_cons (pg_name (i := 4) sc_Table_halves.nd rfl (Or.inr rfl)) pgs_nil))) (pss_one (ps_setLc2 (wi1 := iList K _) (own := [("start", 5), ("half", 6)]) (g := (gName 5)) (g1 := (gName 6)) (vs1 := [6]) (i := 2) rfl sc_Table_halves.nd rfl rfl (sw_true rfl rfl rfl (by decide +kernel)) (pi_list (pv 2)) (blkOk_by (N := N_Table_halves) (sc := defScope s_Table_halves) (by decide +kernel)) (by decide) (fun _ _ _ _ _ => (pg_name (i := 5) sc_Table_halves.nd rfl (Or.inl rfl))) (fun _ _ _ _ _ => pts_nil) (fun _ _ _ _ _ => (pi_list (pe_call (ok_half_places T) (hr.mono (by decide)) rfl T.m_half_places T.F_half_places.kp T.b_half_places .nil pass0 (pa_cons (pv 3) (pa_cons (pv 4) pa_nil))))) (fun _ _ _ _ _ => (pg_name (i := 6) sc_Table_halves.nd rfl (Or.inl rfl))) (fun _ _ _ _ _ => pts_nil) (fun _ _ _ _ _ => (pe_op (r := rCatA K) op_catA (pv 5) (pe_tup (pa_cons (pv 6) pa_nil))))))) (pss_one (ps_ret (pv 2)))))), ?_⟩
    refine ⟨_, rfl, _, rfl, a, _, ns, _, rfl, tab, l4, TupA.ints hs (by omega), isSeat_ok sk, fun H1 e1 => ?_⟩
    obtain ⟨dx, t, h1, h2⟩ := tab.mono e1
    have hs1 := e1 _ _ hs
    refine ⟨by show 0 ≤ sizeLine; decide, fun u hu => ⟨by show 1 ≤ sizeLine; decide, fun f hf => ?_⟩⟩
    have e2 : Ex H1 (upd (upd H1 u (.tup [])) f (.lst [.ref u])) := ext (exn hu) (exn hf)
    have f0 : H f = none := Evl.fresh_back e1 (Evl.fresh_back (exn hu) hf)
    refine ⟨_, rfl, _, rfl, a, _, dx, _, _, rfl, e2 _ _ h1, T.cl_Table, T.n_Table_rings, rfl, [s, t], rfl, rfl, all2 (sqT (e2 _ _ hs1)) (sqT (e2 _ _ h2)), ?_⟩
    refine for_it (CZ.walk_rows (xss := [ps.map V.int, ns.map V.int]) (n := ns.length) (lens2 (by rw [List.length_map, lp]) (by rw [List.length_map]))) (fun i σ H2 => ∃ (f : Addr) (y1 y2 y3 y4 : Option V), σ = [some (.ref a), some (.ref s), some (.ref f), y1, y2, y3, y4] ∧ Ex H1 H2 ∧ H f = none ∧ RowsAt H2 f (halvesF ((ps.zip ns).take i))) ⟨_, _, _, _, _, rfl, e2, f0, _, upd_same, .cons ⟨u, rfl, by rw [upd_ne (ne_of_none upd_same hf)]; exact upd_same⟩ .nil⟩ (fun i σ H2 _ ⟨_, _, _, _, _, _, e, _⟩ => .cons (sqT (e _ _ hs1)) (.cons (sqT (e _ _ h2)) .nil)) ?_ ?_
    · rintro i x σ H2 H3 hi ⟨f, y1, y2, y3, y4, rfl, e3, f0, ra⟩ yy
      obtain ⟨Ta, p, n, rfl, hT, rfl, hp, hn⟩ := yints2 yy
      have n1 := ok.one n (List.mem_of_getElem? hn)
      have n2 := hB n (List.mem_of_getElem? hn)
      obtain ⟨p0, p1⟩ := sk.at hn hp
      have lt : ((ps.zip ns).take i).length ≤ 4 := by
        rw [List.length_take, zip_len lp rfl]
        omega
      have few := halves_few lt
      have ezs := take_more (zip_at hp hn)
      refine ⟨Ta, _, rfl, SqT.of upd_same, rfl, _, _, rfl, _, _, rfl, rfl, ?_⟩
      have e4 : Ex H1 (upd H2 Ta (.tup [.int p, .int n])) := ext e3 (exn hT)
      have ra4 := ra.mono (exn (o := .tup [.int p, .int n]) hT)
      generalize upd H2 Ta (.tup [.int p, .int n]) = H4 at e4 ra4
      obtain ⟨xs, ra5, rr⟩ := ra4
      generalize hh : halvesF ((ps.zip ns).take i) = hss at rr few
      have hk := half_len p n
      refine ⟨_, rfl, f, rfl, ⟨_, SqL.of ra5⟩, fun D hD => ?_⟩
      refine lc2_it (walk_list (xs := xs)) (fun j H => Ex H4 H ∧ RowsAt H D (crossL (hss.take j) (halfL p n))) ⟨exn hD, _, upd_same, .nil⟩ (fun j H _ q => SqL.of (q.1 _ _ ra5)) ?_ ?_
      · rintro j x _ H5 hj ⟨e5, rb⟩ ⟨rfl, hx⟩
        obtain ⟨hs, r, hhs, rfl, hr4⟩ := rr.get hx
        refine ⟨rfl, ?_⟩
        refine ⟨_, rfl, _, rfl, p, n, rfl, p0, p1, n2, fun q H6 e6 hq hq6 => ⟨q, rfl, ⟨_, SqL.of hq6⟩, ?_⟩⟩
        have nqD : q ≠ D := by
          obtain ⟨xs, z, _⟩ := rb
          exact (ne_of_none z hq).symm
        refine in_it (walk_list (xs := (halfL p n).map V.int)) (fun l H => Ex H4 H ∧ H q = some (.lst ((halfL p n).map V.int)) ∧ RowsAt H D (crossL (hss.take j) (halfL p n) ++ ((halfL p n).take l).map fun k => hs ++ [k])) ⟨ext e5 e6, hq6, ?_⟩ (fun l H _ q => SqL.of q.2.1) ?_ ?_
        · rw [List.take_zero, List.map_nil, List.append_nil]
          exact rb.mono e6
        · rintro l x _ H7 hl ⟨e7, hq7, rc⟩ ⟨rfl, hx⟩
          obtain ⟨h, hh2, rfl⟩ := map_get hx
          refine ⟨rfl, ?_⟩
          refine ⟨_, rfl, _, rfl, by show 1 ≤ sizeLine; decide, fun u hu => ?_⟩
          have ll : ∀ x : Nat, x = (crossL (hss.take j) (halfL p n) ++ ((halfL p n).take l).map fun k => hs ++ [k]).length → x < sizeLine := fun x e => by
            rw [e, List.length_append, cross_len, List.length_map, List.length_take, List.length_take]
            have : min j hss.length * (halfL p n).length ≤ 16 * 2 := Nat.mul_le_mul (Nat.le_trans (Nat.min_le_right _ _) few) hk
            exact Nat.lt_of_le_of_lt (show _ ≤ 34 by omega) (by decide)
          have next : ∀ H8 v, Ex H7 H8 → H8 v = some (.tup ((hs ++ [h]).map V.int)) → ∃ acc, H8 D = some (.lst acc) ∧ acc.length < sizeLine ∧ Ex H4 (upd H8 D (.lst (acc ++ [.ref v]))) ∧ upd H8 D (.lst (acc ++ [.ref v])) q = some (.lst ((halfL p n).map V.int)) ∧ RowsAt (upd H8 D (.lst (acc ++ [.ref v]))) D (crossL (hss.take j) (halfL p n) ++ ((halfL p n).take (l + 1)).map fun k => hs ++ [k]) := fun H8 v e8 hv => by
            obtain ⟨acc, g1, g2, g3⟩ := rows_push (rc.mono e8) hv
            refine ⟨acc, g1, ll _ g2, ex_upd (ext e7 e8) hD, by rw [upd_ne nqD]; exact e8 _ _ hq7, ?_⟩
            rw [take_more hh2, List.map_append, ← List.append_assoc]
            exact g3
          refine ⟨r, u, hs.map V.int, [.int h], rfl, rfl, SqT.of (exn hu _ _ (e7 _ _ hr4)), SqT.of upd_same, ?_, fun z => ?_, fun _ z => (nomatch z), fun _ _ v hv => ?_⟩
          · have hr2 := halves_rows ((ps.zip ns).take i) [[]] 0 (fun hs z => by rw [List.mem_singleton.mp z]; rfl) hs (by have := List.mem_of_getElem? hhs; rw [← hh] at this; exact this)
            rw [List.length_map, hr2]
            exact Nat.le_trans (show 0 + _ + 1 ≤ 5 by omega) (by decide)
          · have : hs = [] := List.map_eq_nil_iff.mp z
            subst this
            exact next _ u (exn hu) upd_same
          · refine next _ v (ext (exn hu) (exn hv)) ?_
            rw [upd_same, List.map_append]
            rfl
        · rintro H7 ⟨e7, hq7, rc⟩
          refine ⟨e7, ?_⟩
          rw [List.length_map, List.take_length, ← cross_snoc, ← take_more hhs] at rc
          exact rc
      · rintro H5 ⟨e5, rb⟩
        rw [ezs, halves_snoc, hh]
        rw [rr.len, List.take_length] at rb
        exact ⟨D, _, _, _, _, rfl, ext e4 e5, Evl.fresh_back e1 (Evl.fresh_back e4 hD), rb⟩
    · rintro σ H2 ⟨f, y1, y2, y3, y4, rfl, e2, f0, ra⟩
      rw [zip_take_len lp rfl] at ra
      exact ⟨_, rfl, k f _ (ext e1 e2) f0 ra⟩
end

/-! ### tuple * int, from 1 on -/
theorem u65 {k : Nat} {A : Around} (r : Room k A) : A.units + 65 < cLine := by have := r.un; omega
theorem tuple_mul1 (l : Addr) (items : Array Value) (n : Nat) (dd : Option Addr) (sl : Array (Option Value)) (x : Int) (u : Tok) (c0 : (decide (x < -(2 ^ 63)) || decide (x ≥ 2 ^ 63)) = false) (c1 : (items.isEmpty || x == 1) = true) :
    Meets (Builtin.«tuple.__mul__» ⟨[.ref l, .int x u], []⟩) (fun _ R s => s.heap.get? l = some { cls := .type "tuple", dict := dd, data := .seq items n, slots := sl } ∧ R (.ok (.ret (Value.ref l))) s) :=
  .of_wp fun prog w A R s h => by
    obtain ⟨hp, g, d, tk, os⟩ := s
    obtain ⟨hl, h⟩ := h
    have f1 := AutoSeq1.idx_int
    wp_walk using wpAny_loadPart' hl
    repeat (first
      | (refine wpAny_ite_false (decide_eq_false (by rw [c0]; exact Bool.false_ne_true)) ?_; wp_walk using wpAny_loadPart' hl)
      | (refine wpAny_ite_true (decide_eq_true c1) ?_; wp_walk using wpAny_loadPart' hl))
    exact ⟨_, rfl, h⟩
def rRepA (K : PySem.W.Frag) : R2 := fun x y H Q => ∃ l k xs, x = .ref l ∧ y = .int k ∧ SqT K H l xs ∧ xs ≠ [] ∧ 1 ≤ k ∧ k ≤ 1000 ∧ xs.length ≤ 1000 ∧ (k = 1 → Q (.ref l) H) ∧ ∀ p, H p = none → Q (.ref p) (upd H p (.tup (List.replicate k.toNat xs).flatten))
theorem op_repA {X : Cx} : OpR X (binaryOp .Mult) (rRepA X.K) := by
  intro pins s σ H x y v u Q I rx ry h
  obtain ⟨l, k, xs, ex, ey, hT, hne, h1, h2, hz, q1, q⟩ := h
  by_cases hk : k = 1
  · subst ex ey hk
    cases rx
    obtain ⟨t, rfl⟩ := ry
    obtain ⟨its, r, ⟨⟨cls, dd, data, sl⟩, ho, hc, n, hd⟩, hs⟩ := I.tuple hT
    simp only at hc hd
    subst hc hd
    refine wpAny_binaryOp_repeat_ref (T := "tuple") (U := "int") (by decide) ⟨_, ho, rfl⟩ (fun s2 => typeIs_int s2 1 t) noFill_tuple_mul PySem.F.fills_int_mul PySem.F.slot_int_rmul repeat_tuple PySem.F.slot_int_index.lookup
      (call_meets PySem.F.slot_int_rmul (typeIs_int s 1 t) PySem.F.entry_int_rmul (PySem.F.args_int_rmul_2 _ _) (int_rmul_tuple 1 t l its.toArray n dd sl)
        ⟨ho, rfl, ⟨_, ho, rfl⟩, call_meets PySem.F.slot_tuple_mul ⟨_, ho, rfl⟩ PySem.F.entry_tuple_mul (PySem.F.args_tuple_mul_2 _ _) (tuple_mul1 l its.toArray n dd sl 1 t (by decide) (by simp)) ⟨ho, ?_⟩⟩)
    exact ⟨.ref l, H, I, rfl, q1 rfl⟩
  · exact op_repT pins s σ H x y v u Q I rx ry ⟨l, k, xs, ex, ey, hT, hne, by omega, h2, hz, q⟩
/-- (x,) * k -/
theorem rep_one (x : V) (k : Nat) : (List.replicate k [x]).flatten = List.replicate k x := by
  induction k with
  | zero => rfl
  | succ k ih => rw [List.replicate_succ, List.flatten_cons, ih, List.replicate_succ]; rfl
theorem rep_ints {K : PySem.W.Frag} {H : Hp} {Q : VK} {u : Addr} {x k : Int} (hu : H u = some (.tup [.int x])) (h1 : 1 ≤ k) (h2 : k ≤ 1000) (h : ∀ q H2, Ex H H2 → H2 q = some (.tup ((List.replicate k.toNat x).map V.int)) → Q (.ref q) H2) : rRepA K (.ref u) (.int k) H Q := by
  refine ⟨u, k, [.int x], rfl, rfl, SqT.of hu, (fun z => nomatch z), h1, h2, (by show 1 ≤ 1000; decide), fun e => ?_, fun p hp => ?_⟩
  · subst e
    exact h u H exr hu
  · refine h p _ (exn hp) ?_
    rw [upd_same, rep_one, List.map_replicate]
theorem ne_same {a b : List Int} (h : a = b) : (!PyData.eqv (iT a) (iT b)) = false := by rw [h]; exact eqv_same (sh_ints b)
/-- a comprehension over a tuple of ints, by a value each -/
theorem row_in {hss : List (List Int)} {ps : List Int} (h : ps ∈ hss) : ((hss.map iT).any fun z => PyData.eqv z (iT ps)) = true := by
  rw [List.any_eq_true]
  exact ⟨iT ps, List.mem_map.mpr ⟨ps, h, rfl⟩, by rw [eqv_ints]; simp⟩
/-- a list of ints -/
abbrev iL (ns : List Int) : PyData := .list (ns.map PyData.int)
theorem sh_ilist {n : Nat} (ns : List Int) : Sh (n + 1) (iL ns) := sh_list fun d hd => by
  obtain ⟨i, _, rfl⟩ := List.mem_map.mp hd
  exact sh_int i
theorem dp_ilist {K : PySem.W.Frag} {H : Hp} {a : Addr} {ns : List Int} (h : H a = some (.lst (ns.map V.int))) : Dp K H (.ref a) (iL ns) := .lst (SqL.of h) (dpall_ints ns)
theorem eqv_ilist (ns ms : List Int) : PyData.eqv (iL ns) (iL ms) = decide (ns = ms) := by
  simp only [PyData.eqv]
  exact eqvAll_ints ns ms
theorem dec_bl {a b : Bool} (h : a = b) : (!decide (V.bl a = V.bl b)) = false := by rw [h]; simp
theorem emod_eq_iff {a b n : Int} : a % n = b % n ↔ n ∣ a - b := by
  rw [Int.emod_eq_emod_iff_emod_sub_eq_zero, Int.dvd_iff_emod_eq_zero]
/-- behind an if that changes names alone -/
theorem ifs_cutS {c : TT} {t u : TS} {D : Ends} {σ : L2.St} {H : Hp} (R : L2.St → Prop) (hR : ∀ σ2, R σ2 → D.nx σ2 H) (h : ∀ N : L2.St → Hp → Prop, (∀ σ2, R σ2 → N σ2 H) → tIfS c t u { D with nx := N } σ H) : tIfS c t u D σ H :=
  h D.nx hR

/-! ### orders, steps and halves: plain -/
theorem per_dvd {p n : Int} (h : 1 ≤ n) (k : Nat) : perN p n ∣ k ↔ n ∣ (k : Int) * p := by
  have hg : 0 < Nat.gcd p.natAbs n.natAbs := gcd_pos2 (p := p) h
  have e : perN p n = n.natAbs / Nat.gcd p.natAbs n.natAbs := rfl
  rw [e, ← Int.natAbs_dvd_natAbs, Int.natAbs_mul, Int.natAbs_natCast]
  generalize n.natAbs = m at *
  generalize p.natAbs = q at *
  constructor
  · intro h1
    have h2 : Nat.gcd q m * (m / Nat.gcd q m) ∣ Nat.gcd q m * k := Nat.mul_dvd_mul_left _ h1
    rw [Nat.mul_div_cancel' (Nat.gcd_dvd_right q m)] at h2
    exact Nat.dvd_trans h2 (by rw [Nat.mul_comm k]; exact Nat.mul_dvd_mul_right (Nat.gcd_dvd_left q m) k)
  · intro h1
    have co : Nat.Coprime (m / Nat.gcd q m) (q / Nat.gcd q m) := (Nat.coprime_div_gcd_div_gcd hg).symm
    refine co.dvd_of_dvd_mul_right ?_
    refine Nat.dvd_of_mul_dvd_mul_left hg ?_
    rw [Nat.mul_div_cancel' (Nat.gcd_dvd_right q m), Nat.mul_left_comm, Nat.mul_div_cancel' (Nat.gcd_dvd_left q m)]
    exact h1
theorem fold_dvd : ∀ {zs : List (Int × Int)} {a k : Nat}, (∀ z ∈ zs, 1 ≤ z.2) → (zs.foldl (fun l z => Nat.lcm l (perN z.1 z.2)) a ∣ k ↔ a ∣ k ∧ ∀ z ∈ zs, z.2 ∣ (k : Int) * z.1)
  | [], a, k, _ => by simp
  | z :: zs, a, k, h => by
    rw [List.foldl_cons, fold_dvd fun y hy => h y (List.mem_cons_of_mem _ hy), Nat.lcm_dvd_iff, per_dvd (h z List.mem_cons_self), List.forall_mem_cons, and_assoc]
theorem ord_dvd {zs : List (Int × Int)} (h : ∀ z ∈ zs, 1 ≤ z.2) (k : Nat) : ordF zs ∣ k ↔ ∀ z ∈ zs, z.2 ∣ (k : Int) * z.1 := by
  unfold ordF
  rw [fold_dvd h]
  simp
theorem shift_back {f : Int} : ∀ {ns ps cs : List Int}, SeatOk ns ps → cs.length = ns.length → shiftL ns (shiftL ns ps cs f) cs (-f) = ps
  | [], [], [], _, _ => rfl
  | n :: ns, p :: ps, c :: cs, h, l => by
    show ((p + f * c) % n + -f * c) % n :: _ = _
    rw [shift_back h.2 (Nat.succ.inj l), Int.emod_add_emod, Int.neg_mul, Int.add_neg_cancel_right, Int.emod_eq_of_lt h.1.1 h.1.2]
theorem shift_neg {f : Int} : ∀ {ns ps cs : List Int}, shiftL ns ps (cs.map fun c => 0 - c) f = shiftL ns ps cs (-f)
  | [], _, _ => by cases ‹List Int› <;> simp [shiftL]
  | _ :: _, [], _ => by simp [shiftL]
  | _ :: _, _ :: _, [] => by simp [shiftL]
  | n :: ns, p :: ps, c :: cs => by
    show (p + f * (0 - c)) % n :: _ = (p + -f * c) % n :: _
    rw [shift_neg, Int.zero_sub, Int.mul_neg, Int.neg_mul]
theorem shift_comm {f g : Int} : ∀ {ns ps cs ds : List Int}, ps.length = ns.length → cs.length = ns.length → ds.length = ns.length → shiftL ns (shiftL ns ps cs f) ds g = shiftL ns (shiftL ns ps ds g) cs f
  | [], [], [], [], _, _, _ => rfl
  | n :: ns, p :: ps, c :: cs, d :: ds, l1, l2, l3 => by
    show ((p + f * c) % n + g * d) % n :: _ = ((p + g * d) % n + f * c) % n :: _
    rw [shift_comm (Nat.succ.inj l1) (Nat.succ.inj l2) (Nat.succ.inj l3), Int.emod_add_emod, Int.emod_add_emod, Int.add_right_comm]
theorem shift_seat {f : Int} : ∀ {ns ps cs : List Int}, (∀ n ∈ ns, 1 ≤ n) → ps.length = ns.length → cs.length = ns.length → SeatOk ns (shiftL ns ps cs f)
  | [], [], [], _, _, _ => True.intro
  | n :: ns, p :: ps, c :: cs, h, l1, l2 => by
    have n1 := h n List.mem_cons_self
    exact ⟨⟨Int.emod_nonneg _ (by omega), Int.emod_lt_of_pos _ (by omega)⟩, shift_seat (fun m hm => h m (List.mem_cons_of_mem _ hm)) (Nat.succ.inj l1) (Nat.succ.inj l2)⟩
theorem shift_same {f g : Int} : ∀ {ns ps cs : List Int}, ps.length = ns.length → cs.length = ns.length → (shiftL ns ps cs f = shiftL ns ps cs g ↔ ∀ z ∈ cs.zip ns, z.2 ∣ (f - g) * z.1)
  | [], [], [], _, _ => by simp [shiftL]
  | n :: ns, p :: ps, c :: cs, l1, l2 => by
    have e : p + f * c - (p + g * c) = (f - g) * c := by rw [Int.sub_mul]; omega
    show (p + f * c) % n :: _ = (p + g * c) % n :: _ ↔ _
    rw [List.cons.injEq, shift_same (Nat.succ.inj l1) (Nat.succ.inj l2), emod_eq_iff, e, List.zip_cons_cons, List.forall_mem_cons]
theorem shift_zero : ∀ {ns ps cs : List Int}, SeatOk ns ps → cs.length = ns.length → shiftL ns ps cs 0 = ps
  | [], [], [], _, _ => rfl
  | n :: ns, p :: ps, c :: cs, h, l => by
    show (p + 0 * c) % n :: _ = _
    rw [shift_zero h.2 (Nat.succ.inj l), Int.zero_mul, Int.add_zero, Int.emod_eq_of_lt h.1.1 h.1.2]
/-- a call times k -/
theorem shift_times {k : Int} : ∀ {ns ps cs : List Int}, shiftL ns ps (cs.map fun c => c * k) 1 = shiftL ns ps cs k
  | [], _, _ => by cases ‹List Int› <;> simp [shiftL]
  | _ :: _, [], _ => by simp [shiftL]
  | _ :: _, _ :: _, [] => by simp [shiftL]
  | n :: ns, p :: ps, c :: cs => by
    show (p + 1 * (c * k)) % n :: _ = (p + k * c) % n :: _
    rw [shift_times, Int.one_mul, Int.mul_comm c]
theorem zero_seat : ∀ {ns : List Int}, (∀ n ∈ ns, 1 ≤ n) → SeatOk ns (List.replicate ns.length 0)
  | [], _ => True.intro
  | n :: ns, h => ⟨⟨Int.le_refl _, by have := h n List.mem_cons_self; omega⟩, zero_seat fun m hm => h m (List.mem_cons_of_mem _ hm)⟩

/-- where the zero seat lands by a call: multiples -/
theorem landed_dvd {k : Nat} : ∀ {ns cs : List Int}, (∀ n ∈ ns, 1 ≤ n) → cs.length = ns.length → ((∀ z ∈ (shiftL ns (List.replicate ns.length 0) cs 1).zip ns, z.2 ∣ (k : Int) * z.1) ↔ ∀ z ∈ cs.zip ns, z.2 ∣ (k : Int) * z.1)
  | [], [], _, _ => by simp [shiftL]
  | n :: ns, c :: cs, h, l => by
    have e : shiftL (n :: ns) (List.replicate (n :: ns).length 0) (c :: cs) 1 = (0 + 1 * c) % n :: shiftL ns (List.replicate ns.length 0) cs 1 := rfl
    rw [e, List.zip_cons_cons, List.zip_cons_cons, List.forall_mem_cons, List.forall_mem_cons, landed_dvd (fun m hm => h m (List.mem_cons_of_mem _ hm)) (Nat.succ.inj l)]
    have e2 : n ∣ (k : Int) * ((0 + 1 * c) % n) ↔ n ∣ (k : Int) * c := by
      rw [Int.one_mul, Int.zero_add, Int.dvd_iff_emod_eq_zero, Int.mul_emod, Int.emod_emod, ← Int.mul_emod, ← Int.dvd_iff_emod_eq_zero]
    show (n ∣ (k : Int) * ((0 + 1 * c) % n) ∧ _) ↔ _
    rw [e2]
theorem half_mem {p n : Int} (p0 : 0 ≤ p) (p1 : p < n) : p ∈ halfL ((2 * p) % n) n := by
  have hx : (2 * p) % n = 2 * p ∨ (2 * p) % n = 2 * p - n := by
    by_cases h : 2 * p < n
    · exact .inl (Int.emod_eq_of_lt (by omega) h)
    · refine .inr ?_
      rw [← Int.sub_emod_right, Int.emod_eq_of_lt (by omega) (by omega)]
  unfold halfL
  by_cases ho : n % 2 = 1
  · rw [if_pos ho, List.mem_singleton]
    obtain ⟨m, hm⟩ : ∃ m, n + 1 = 2 * m := ⟨(n + 1) / 2, by omega⟩
    have e1 : ∀ x : Int, x * (n + 1) / 2 = x * m := fun x => by
      rw [hm, Int.mul_left_comm, Int.mul_ediv_cancel_left _ (by decide)]
    rw [e1]
    rcases hx with e | e
    · rw [e, Int.mul_assoc, Int.mul_left_comm, ← hm, Int.mul_add, Int.mul_one, Int.mul_add_emod_self_right, Int.emod_eq_of_lt p0 p1]
    · have e2 : (2 * p - n) * m = p + n * (p - m) := by
        rw [Int.sub_mul, Int.mul_sub, Int.mul_assoc, Int.mul_left_comm, ← hm, Int.mul_add, Int.mul_one, Int.mul_comm p n]
        omega
      rw [e, e2, Int.add_mul_emod_self_left, Int.emod_eq_of_lt p0 p1]
  · rw [if_neg ho, if_pos (by rcases hx with e | e <;> rw [e] <;> omega)]
    rcases hx with e | e
    · rw [e]
      have : 2 * p / 2 = p := by omega
      rw [this]
      exact List.mem_cons_self
    · rw [e]
      have : (2 * p - n + n) / 2 = p := by omega
      rw [this]
      exact List.mem_cons_of_mem _ List.mem_cons_self
theorem mem_halves : ∀ {zs : List (Int × Int)} {qs : List Int} {hss : List (List Int)} {hs : List Int}, Paired (fun z q => q ∈ halfL z.1 z.2) zs qs → hs ∈ hss → hs ++ qs ∈ zs.foldl (fun hss z => crossL hss (halfL z.1 z.2)) hss
  | [], _, _, _, .nil, h => by rw [List.append_nil]; exact h
  | z :: zs, q :: qs, hss, hs, .cons h t, hh => by
    rw [List.append_cons, List.foldl_cons]
    exact mem_halves t (List.mem_flatMap.mpr ⟨hs, hh, List.mem_map.mpr ⟨q, h, rfl⟩⟩)
/-- the sum of a seat's two moves has it as a half -/
theorem sum_half {f : Int} : ∀ {ns ps cs : List Int}, SeatOk ns ps → cs.length = ns.length → Paired (fun z q => q ∈ halfL z.1 z.2) ((shiftL ns (shiftL ns ps cs f) (shiftL ns ps cs (-f)) 1).zip ns) ps
  | [], [], [], _, _ => .nil
  | n :: ns, p :: ps, c :: cs, h, l => by
    refine .cons ?_ (sum_half h.2 (Nat.succ.inj l))
    show p ∈ halfL (((p + f * c) % n + 1 * ((p + -f * c) % n)) % n) n
    have e : p + f * c + (p + -f * c) = 2 * p := by rw [Int.neg_mul]; omega
    rw [Int.one_mul, ← Int.add_emod, e]
    exact half_mem h.1.1 h.1.2
theorem sum_half2 : ∀ {ns ps : List Int}, SeatOk ns ps → Paired (fun z q => q ∈ halfL z.1 z.2) ((shiftL ns ps ps 1).zip ns) ps
  | [], [], _ => .nil
  | n :: ns, p :: ps, h => by
    refine .cons ?_ (sum_half2 h.2)
    show p ∈ halfL ((p + 1 * p) % n) n
    have e : p + 1 * p = 2 * p := by omega
    rw [e]
    exact half_mem h.1.1 h.1.2
/-- a ring of a product, beside the two -/
theorem ord_two {a b p : Int} (a1 : 1 ≤ a) (b1 : 1 ≤ b) (co : Int.gcd a b = 1) : ordF [(p, a * b)] = ordF [(p % a, a), (p % b, b)] := by
  have h1 : ∀ z ∈ [(p, a * b)], (1 : Int) ≤ z.2 := fun z hz => by
    rw [List.mem_singleton.mp hz]
    have := Int.mul_le_mul a1 b1 (by decide) (by omega)
    exact this
  have h2 : ∀ z ∈ [(p % a, a), (p % b, b)], (1 : Int) ≤ z.2 := fun z hz => by
    rcases List.mem_cons.mp hz with e | e
    · rw [e]; exact a1
    · rw [List.mem_singleton.mp e]; exact b1
  have key : ∀ k : Nat, ordF [(p, a * b)] ∣ k ↔ ordF [(p % a, a), (p % b, b)] ∣ k := fun k => by
    rw [ord_dvd h1, ord_dvd h2]
    have ea : a ∣ (k : Int) * (p % a) ↔ a ∣ (k : Int) * p := by
      rw [Int.dvd_iff_emod_eq_zero, Int.mul_emod, Int.emod_emod, ← Int.mul_emod, ← Int.dvd_iff_emod_eq_zero]
    have eb : b ∣ (k : Int) * (p % b) ↔ b ∣ (k : Int) * p := by
      rw [Int.dvd_iff_emod_eq_zero, Int.mul_emod, Int.emod_emod, ← Int.mul_emod, ← Int.dvd_iff_emod_eq_zero]
    simp only [List.forall_mem_cons, List.not_mem_nil, false_implies, implies_true, and_true]
    rw [ea, eb]
    constructor
    · intro h
      exact ⟨Int.dvd_trans (Int.dvd_mul_right a b) h, Int.dvd_trans (Int.dvd_mul_left a b) h⟩
    · rintro ⟨x, y⟩
      rw [← Int.natAbs_dvd_natAbs] at x y ⊢
      rw [Int.natAbs_mul]
      exact Nat.Coprime.mul_dvd_of_dvd_of_dvd co x y
  exact Nat.dvd_antisymm ((key _).mpr (Nat.dvd_refl _)) ((key _).mp (Nat.dvd_refl _))
theorem step_two {a b p s f : Int} : shiftL [a, b] [p % a, p % b] [s, s] f = [(p + f * s) % (a * b) % a, (p + f * s) % (a * b) % b] := by
  show [(p % a + f * s) % a, (p % b + f * s) % b] = _
  rw [Int.emod_add_emod, Int.emod_add_emod, Int.emod_emod_of_dvd _ (Int.dvd_mul_right a b), Int.emod_emod_of_dvd _ (Int.dvd_mul_left a b)]

section
variable {P : Program} {w : World} {K : PySem.W.Frag} {mg : Str → Option Value} {base : Heap}
def sp_law_sum : Sp := fun vs H Q _ => ∃ (s c l : Addr) (ns ps cs : List Int), vs = [.ref s, .ref c, .ref l] ∧ H l = some (.lst (ns.map V.int)) ∧ SzOk ns ∧ H s = some (.tup (ps.map V.int)) ∧ H c = some (.tup (cs.map V.int)) ∧ ps.length = ns.length ∧ cs.length = ns.length ∧
  ∀ H2 q, Ex H H2 → H q = none → H2 q = some (.tup ((shiftL ns ps cs 1).map V.int)) → Q (.ref q) H2
theorem ok_law_sum (T : TX K mg) : FnOk P w K mg base CX0 1 T.f_law_sum T.fd_law_sum ["_law_first", "_law_second", "_law_sizes"] sp_law_sum := by
  refine T.F_law_sum.ok sc_law_sum (fun vs H Q E h => ?_) (fun cdv A outer s H vs Q E hr h => ?_)
  · obtain ⟨s, c, l, ns, ps, cs, rfl, _⟩ := h
    rfl
  · obtain ⟨s, c, t, ns, ps, cs, rfl, h2, ok, hs, hc, lp, lc, k⟩ := h
    have l4 := ok.le
    refine ⟨_, (pss_one (ps_ret (pe_callTy call_tuple_of (by rfl) T.z_tuple (by decide +kernel) (pa_cons (pe_lc (own := [("_law_a", 3), ("_law_b", 4), ("_law_size", 5)]) (g := (gTup K 3 (gCons (gName 3) (gCons (gName 4) (gCons (gName 5) gNil))))) rfl sc_law_sum.nd (CZ.pi_z3 (fl := [true, true, false]) rfl (by rfl) T.z_zip (pa_cons (pv 0) (pa_cons (pv 1) (pa_cons (pv 2) pa_nil)))) (blkOk_by (N := N_law_sum) (sc := defScope s_law_sum) (by decide +kernel)) (fun _ _ _ _ _ => (pg_tup rfl (pgs_cons (pg_name (i := 3) sc_law_sum.nd rfl (Or.inl rfl)) (pgs_cons (pg_name (i := 4) sc_law_sum.nd rfl (Or.inl rfl)) (pgs_cons (pg_name (i := 5) sc_law_sum.nd rfl (Or.inl rfl)) pgs_nil))))) (fun _ _ _ _ _ => pts_nil) (fun _ _ _ _ _ => (pe_op op_mod (pe_op op_add (pv 3) (pv 4)) (pv 5)))) pa_nil)))), ?_⟩
    refine ⟨_, rfl, _, rfl, _, rfl, [s, c, t], rfl, rfl, all3 (sqT hs) (sqT hc) (sqL h2), fun D hD => ?_⟩
    have ls : (shiftL ns ps cs 1).length = ns.length := shift_len lp lc
    refine lc_vals (CZ.walk_rows (xss := [ps.map V.int, cs.map V.int, ns.map V.int]) (n := ns.length) (lens3 (by rw [List.length_map, lp]) (by rw [List.length_map, lc]) (by rw [List.length_map]))) ((shiftL ns ps cs 1).map V.int) (by rw [List.length_map, ls]) (by omega) hD (fun H3 e => .cons (sqT (e _ _ hs)) (.cons (sqT (e _ _ hc)) (.cons (sqL (e _ _ h2)) .nil))) ?_ (gmono_tup (gmono_cons gmono_name (gmono_cons gmono_name (gmono_cons gmono_name gmono_nil)))) ?_
    · intro i y H3 H4 R hi e yy kk
      obtain ⟨Ta, p, d, n, rfl, hT, rfl, hp, hd, hn⟩ := yints3 yy
      have n1 := ok.one n (List.mem_of_getElem? hn)
      refine ⟨Ta, _, rfl, SqT.of upd_same, rfl, _, _, rfl, _, _, rfl, _, _, rfl, rfl, rfl, ?_⟩
      refine ⟨_, rfl, _, rfl, _, _, rfl, rfl, _, rfl, _, _, rfl, rfl, (by show (0 : Int) < n; omega), ?_⟩
      refine kk _ _ (exn hT) ?_
      rw [List.getElem?_map, shift_get hn hp hd, Int.one_mul]
      rfl
    · intro H3 e hD3
      exact ⟨D, _, rfl, .inl ⟨SqL.of hD3, fun q hq => k _ q (ext e (exn hq)) (Evl.fresh_back e hq) upd_same⟩⟩
end

/-- a comprehension that lengthens a row by each of ks -/
theorem lc_rows {J : It} {n : Nat} {G : Hp → Prop} {Y : Nat → Hp → V → Hp → Prop} (w : Walk J n G Y) {g : TG} {te : TE} {vs : List Nat} {σ : L2.St} {H1 : Hp} {D : Addr} {Qd : Hp → Prop} (row ks : List Int) (hn : ks.length = n) (hl : n ≤ 10000000) (hD : H1 D = none)
    (hG : ∀ H, Ex H1 H → G H)
    (hs : ∀ i x H H2 (R : VK), i < n → Ex H1 H → Y i H x H2 → (∀ k v H5, Ex H H5 → ks[i]? = some k → H5 v = some (.tup ((row ++ [k]).map V.int)) → R (.ref v) H5) → g x (wipe σ vs) H2 fun σ2 H3 => wipe σ2 vs = wipe σ vs ∧ te σ2 H3 R)
    (hg : ∀ x σ2 H2 (R R2 : L2.St → Hp → Prop), (∀ σ3 H3, R σ3 H3 → R2 σ3 H3) → g x σ2 H2 R → g x σ2 H2 R2)
    (hd : ∀ H, Ex H1 H → RowsAt H D (ks.map fun k => row ++ [k]) → Qd H) :
    ∃ W : Nat → Nat → Hp → Prop, (∃ m, W 0 m (upd H1 D (.lst []))) ∧ ∀ i m H, W i m H →
      (J.stop i H ∧ Qd H) ∨ (J.go i H ∧ ∃ Nx : Hp → Prop, (∀ H2, Nx H2 → ∃ m2, m2 < m ∧ W (i + 1) m2 H2) ∧ ∀ x H2, J.yld i H x H2 → g x (wipe σ vs) H2 fun σ2 H3 => wipe σ2 vs = wipe σ vs ∧ tYes σ2 H3 fun b H4 =>
        if b = true then te σ2 H4 fun y H5 => ∃ acc, H5 D = some (.lst acc) ∧ acc.length < sizeLine ∧ Nx (upd H5 D (.lst (acc ++ [y]))) else Nx H4) := by
  refine lc_it w (fun i H => Ex H1 H ∧ RowsAt H D ((ks.take i).map fun k => row ++ [k])) ⟨exn hD, _, upd_same, .nil⟩ (fun i H _ p => hG H p.1) (fun i x H H2 hi p y => ?_) (fun H p => hd H p.1 (by have := p.2; rwa [List.take_of_length_le (by rw [hn]; exact Nat.le_refl _)] at this))
  refine hg _ _ _ _ _ (fun σ3 H3 q => ⟨q.1, q.2⟩) (hs i x H H2 (fun y H5 => ∃ acc, H5 D = some (.lst acc) ∧ acc.length < sizeLine ∧ Ex H1 (upd H5 D (.lst (acc ++ [y]))) ∧ RowsAt (upd H5 D (.lst (acc ++ [y]))) D ((ks.take (i + 1)).map fun k => row ++ [k])) hi p.1 y fun k v H5 e hk hv => ?_)
  obtain ⟨acc, h1, h2, h3⟩ := rows_push (p.2.mono e) hv
  refine ⟨acc, h1, ?_, ex_upd (ext p.1 e) hD, ?_⟩
  · rw [h2, List.length_map, List.length_take]
    exact Nat.lt_of_le_of_lt (Nat.le_trans (Nat.min_le_right _ _) (by rw [hn]; exact hl)) (by decide)
  · rw [take_more hk, List.map_append]
    exact h3
/-- row + (k,) -/
theorem cat_row {K : PySem.W.Frag} {H : Hp} {Q : VK} {r u : Addr} {row : List Int} {k : Int} (hr : H r = some (.tup (row.map V.int))) (hu : H u = some (.tup [.int k])) (hl : row.length ≤ 1000) (h : ∀ v H5, Ex H H5 → H5 v = some (.tup ((row ++ [k]).map V.int)) → Q (.ref v) H5) : rCatA K (.ref r) (.ref u) H Q := by
  refine ⟨r, u, row.map V.int, [.int k], rfl, rfl, SqT.of hr, SqT.of hu, ?_, fun z => ?_, fun _ z => (nomatch z), fun _ _ v hv => ?_⟩
  · rw [List.length_map]
    exact Nat.le_trans (show _ + 1 ≤ 1001 by omega) (by decide)
  · have : row = [] := List.map_eq_nil_iff.mp z
    subst this
    exact h u H exr hu
  · refine h v _ (exn hv) ?_
    rw [upd_same, List.map_append]
    rfl
theorem rows_ext {H : Hp} {D E : Addr} {hss kss : List (List Int)} (h1 : RowsAt H D hss) (h2 : RowsAt H E kss) (ne : D ≠ E) : ∃ xs zs, H D = some (.lst xs) ∧ H E = some (.lst zs) ∧ xs.length = hss.length ∧ zs.length = kss.length ∧ RowsAt (upd H D (.lst (xs ++ zs))) D (hss ++ kss) := by
  obtain ⟨xs, a1, a2⟩ := h1
  obtain ⟨zs, b1, b2⟩ := h2
  exact ⟨xs, zs, a1, b1, a2.len, b2.len, _, upd_same, RowsR.app (b2.upd a1) (a2.upd a1)⟩

def allL (ns : List Int) : List (List Int) := ns.foldl (fun hss n => crossL hss ((List.range n.toNat).map fun (i : Nat) => (i : Int))) [[]]
theorem all_snoc (ns : List Int) (n : Int) : allL (ns ++ [n]) = crossL (allL ns) ((List.range n.toNat).map fun (i : Nat) => (i : Int)) := by
  unfold allL
  rw [List.foldl_append]
  rfl
theorem all_fold : ∀ {ns : List Int} {hss : List (List Int)} {m : Nat}, (∀ n ∈ ns, 0 ≤ n ∧ n ≤ 12) → (∀ hs ∈ hss, hs.length = m) → (ns.foldl (fun hss n => crossL hss ((List.range n.toNat).map fun (i : Nat) => (i : Int))) hss).length ≤ hss.length * 12 ^ ns.length ∧ ∀ hs ∈ ns.foldl (fun hss n => crossL hss ((List.range n.toNat).map fun (i : Nat) => (i : Int))) hss, hs.length = m + ns.length
  | [], hss, m, _, h => ⟨by simp, h⟩
  | n :: ns, hss, m, hn, h => by
    have n1 := hn n List.mem_cons_self
    obtain ⟨g1, g2⟩ := all_fold (ns := ns) (hss := crossL hss ((List.range n.toNat).map fun (i : Nat) => (i : Int))) (m := m + 1) (fun k hk => hn k (List.mem_cons_of_mem _ hk)) (fun ks hk => by
      obtain ⟨us, hu, hk⟩ := List.mem_flatMap.mp hk
      obtain ⟨k, _, rfl⟩ := List.mem_map.mp hk
      rw [List.length_append, h us hu]
      rfl)
    refine ⟨Nat.le_trans g1 ?_, fun hs hh => by rw [g2 hs hh, List.length_cons]; omega⟩
    rw [cross_len, List.length_map, List.length_range, List.length_cons, Nat.pow_succ, Nat.mul_comm (12 ^ ns.length), ← Nat.mul_assoc]
    exact Nat.mul_le_mul_right _ (Nat.mul_le_mul_left _ (by omega))
theorem all_few {ns : List Int} (h : ∀ n ∈ ns, 0 ≤ n ∧ n ≤ 12) (l : ns.length ≤ 4) : (allL ns).length ≤ 20736 ∧ ∀ hs ∈ allL ns, hs.length = ns.length := by
  obtain ⟨g1, g2⟩ := all_fold (hss := [[]]) (m := 0) h (fun hs z => by rw [List.mem_singleton.mp z]; rfl)
  refine ⟨Nat.le_trans g1 ?_, fun hs hh => by rw [g2 hs hh]; omega⟩
  rw [List.length_singleton, Nat.one_mul]
  exact Nat.pow_le_pow_right (by decide) l
section
variable {P : Program} {w : World} {K : PySem.W.Frag} {mg : Str → Option Value} {base : Heap}
def sp_law_all : Sp := fun vs H Q _ => ∃ (l : Addr) (ns : List Int), vs = [.ref l] ∧ H l = some (.lst (ns.map V.int)) ∧ ns.length ≤ 4 ∧ (∀ n ∈ ns, 0 ≤ n ∧ n ≤ 12) ∧ ∀ q H2, Ex H H2 → H q = none → RowsAt H2 q (allL ns) → Q (.ref q) H2
theorem ok_law_all (T : TX K mg) : FnOk P w K mg base CX0 1 T.f_law_all T.fd_law_all ["_law_sizes"] sp_law_all := by
  refine T.F_law_all.ok sc_law_all (fun vs H Q E h => ?_) (fun cdv A outer s H vs Q E hr h => ?_)
  · obtain ⟨l, ns, rfl, _⟩ := h
    rfl
  · obtain ⟨l, ns, rfl, hl, l4, hB, k⟩ := h
    refine ⟨_, (pss_cons (ps_set (i := 1) sc_law_all.nd rfl (Or.inl rfl) (pe_lst (pa_cons (pe_tup pa_nil) pa_nil))) (pss_cons (ps_for PassesOwn.never rfl (pi_list (pv 0)) (pg_name (i := 2) sc_law_all.nd rfl (Or.inl rfl)) (pss_cons (ps_set (i := 3) sc_law_all.nd rfl (Or.inl rfl) (pe_lst pa_nil)) (pss_cons (ps_for PassesOwn.never rfl (pi_list (pv 1)) (pg_name (i := 4) sc_law_all.nd rfl (Or.inr rfl)) (pss_one (ps_expr (pe_bm PySem.F.plainAttrs_list PySem.F.slot_list_extend PySem.F.type_list_extend mt_extend (pv 3) (pa_cons (pe_lc (own := [("_law_place", 5)]) (g := (gName 5)) rfl sc_law_all.nd (pi_range1 rfl T.z_range (pa_cons (pv 2) pa_nil)) (blkOk_by (N := N_law_all) (sc := defScope s_law_all) (by decide +kernel)) (fun _ _ _ _ _ => (pg_name (i := 5) sc_law_all.nd rfl (Or.inl rfl))) (fun _ _ _ _ _ => pts_nil) (fun _ _ _ _ _ => (pe_op (r := rCatA K) op_catA (pv 4) (pe_tup (pa_cons (pv 5) pa_nil))))) pa_nil))))) (pss_one (ps_set (i := 1) sc_law_all.nd rfl (Or.inl rfl) (pv 3)))))) (pss_one (ps_ret (pv 1))))), ?_⟩
    refine ⟨by show 0 ≤ sizeLine; decide, fun u hu => ⟨by show 1 ≤ sizeLine; decide, fun f hf => ?_⟩⟩
    have e2 : Ex H (upd (upd H u (.tup [])) f (.lst [.ref u])) := ext (exn hu) (exn hf)
    have f0 : H f = none := Evl.fresh_back (exn hu) hf
    refine ⟨_, rfl, l, rfl, ⟨_, SqL.of (e2 _ _ hl)⟩, ?_⟩
    refine for_it (walk_list (xs := ns.map V.int)) (fun i σ H2 => ∃ (f : Addr) (y2 y3 y4 y5 : Option V), σ = [some (.ref l), some (.ref f), y2, y3, y4, y5] ∧ Ex H H2 ∧ H f = none ∧ RowsAt H2 f (allL (ns.take i))) ⟨_, _, _, _, _, rfl, e2, f0, _, upd_same, .cons ⟨u, rfl, by rw [upd_ne (ne_of_none upd_same hf)]; exact upd_same⟩ .nil⟩ (fun i σ H2 _ ⟨_, _, _, _, _, _, e, _⟩ => SqL.of (e _ _ hl)) ?_ ?_
    · rintro i x σ _ H2 hi ⟨f, y2, y3, y4, y5, rfl, e3, f0, ra⟩ ⟨rfl, hx⟩
      obtain ⟨n, hn, rfl⟩ := map_get hx
      obtain ⟨n0, n12⟩ := hB n (List.mem_of_getElem? hn)
      have few : (allL (ns.take i)).length ≤ 20736 ∧ ∀ hs ∈ allL (ns.take i), hs.length = (ns.take i).length := all_few (fun m hm => hB m (List.mem_of_mem_take hm)) (by rw [List.length_take]; omega)
      have ezs := take_more hn
      refine ⟨by show 0 ≤ sizeLine; decide, fun L hL => ?_⟩
      obtain ⟨xs, ra5, rr⟩ := id ra
      generalize hh : allL (ns.take i) = hss at rr few
      have e4 := exn (o := .lst []) hL
      refine ⟨_, rfl, f, rfl, ⟨_, SqL.of (e4 _ _ ra5)⟩, ?_⟩
      refine for_it (walk_list (xs := xs)) (fun j σ H3 => ∃ y4 y5 : Option V, σ = [some (.ref l), some (.ref f), some (.int n), some (.ref L), y4, y5] ∧ Ex H2 H3 ∧ RowsAt H3 L (crossL (hss.take j) ((List.range n.toNat).map fun (i : Nat) => (i : Int)))) ⟨_, _, rfl, e4, _, upd_same, .nil⟩ (fun j σ H3 _ ⟨_, _, _, e, _⟩ => SqL.of (e _ _ ra5)) ?_ ?_
      · rintro j x σ _ H3 hj ⟨y4, y5, rfl, e5, rb⟩ ⟨rfl, hx⟩
        obtain ⟨hs, r, hhs, rfl, hr4⟩ := rr.get hx
        obtain ⟨ys, hy1, hy2⟩ := id rb
        have hsl := few.2 hs (List.mem_of_getElem? hhs)
        refine ⟨_, rfl, .inl ⟨rfl, _, SqL.of hy1⟩, _, rfl, n, rfl, by omega, by omega, fun D hD => ?_⟩
        refine lc_rows walk_range hs ((List.range n.toNat).map fun (i : Nat) => (i : Int)) (by simp) (by omega) hD (fun _ _ => True.intro) ?_ gmono_name ?_
        · rintro m x _ H5 R hm e6 ⟨rfl, hx⟩ kk
          obtain rfl : x = .int (m : Int) := hx.trans (congrArg V.int (Int.zero_add _))
          refine ⟨rfl, _, rfl, _, rfl, by show 1 ≤ sizeLine; decide, fun v hv => ?_⟩
          have hm2 : m < n.toNat := hm
          refine cat_row (exn hv _ _ (e6 _ _ (e5 _ _ hr4))) upd_same (by rw [hsl, List.length_take]; omega) fun z H6 e7 hz => kk _ z H6 (ext (exn hv) e7) ?_ hz
          rw [List.getElem?_map, List.getElem?_range hm2]
          rfl
        · intro H4 e6 rc
          have neL : L ≠ D := ne_of_none hy1 hD
          obtain ⟨as, bs, g1, g2, g3, g4, g5⟩ := rows_ext (rb.mono e6) rc neL
          refine ⟨L, D, as, bs, rfl, rfl, g1, g2, ?_, ?_⟩
          · simp only [g3, g4, cross_len, List.length_map, List.length_range, List.length_take]
            have : min j hss.length * n.toNat ≤ 20736 * 12 := Nat.mul_le_mul (Nat.le_trans (Nat.min_le_right _ _) few.1) (by omega)
            exact Nat.le_trans (show _ ≤ 248832 + 12 by omega) (by decide)
          · refine ⟨_, _, rfl, ex_upd (ext e5 e6) hL, ?_⟩
            rw [take_more hhs, cross_snoc]
            exact g5
      · rintro σ H3 ⟨y4, y5, rfl, e5, rb⟩
        rw [rr.len, List.take_length] at rb
        rw [ezs, all_snoc, hh]
        exact ⟨_, rfl, L, _, _, _, _, rfl, ext e3 e5, Evl.fresh_back e3 hL, rb⟩
    · rintro σ H2 ⟨f, y2, y3, y4, y5, rfl, e3, f0, ra⟩
      rw [List.length_map, List.take_length] at ra
      exact ⟨_, rfl, k f _ e3 f0 ra⟩
def sp_law_period : Sp := fun vs H Q _ => ∃ (s l : Addr) (ns ps : List Int), vs = [.ref s, .ref l] ∧ H l = some (.lst (ns.map V.int)) ∧ SzOk ns ∧ SzB ns ∧ H s = some (.tup (ps.map V.int)) ∧ SeatOk ns ps ∧ ∀ H2, Ex H H2 → Q (.int (ordF (ps.zip ns))) H2
theorem ok_law_period (T : TX K mg) : FnOk P w K mg base CX0 2 T.f_law_period T.fd_law_period ["_law_origin", "_law_sizes"] sp_law_period := by
  refine T.F_law_period.ok sc_law_period (fun vs H Q E h => ?_) (fun cdv A outer s H vs Q E hr h => ?_)
  · obtain ⟨s, l, ns, ps, rfl, _⟩ := h
    rfl
  · obtain ⟨s, t, ns, ps, rfl, h2, ok, hB, hs1, sk, k⟩ := h
    have l4 := ok.le
    have lp := sk.len
    refine ⟨_, (pss_cons (ps_set (i := 2) sc_law_period.nd rfl (Or.inl rfl) pe_int) (pss_cons (ps_for PassesOwn.never rfl (CZ.pi_z2 (fl := [true, false]) rfl (by rfl) T.z_zip (pa_cons (pv 0) (pa_cons (pv 1) pa_nil))) (pg_tup rfl (pgs_cons (pg_name (i := 3) sc_law_period.nd rfl (Or.inl rfl)) (pgs_cons (pg_name (i := 4) sc_law_period.nd rfl (Or.inl rfl)) pgs_nil))) (pss_cons (ps_set (i := 5) sc_law_period.nd rfl (Or.inl rfl) (pe_op op_fdivW (pv 4) (pe_call (ok_law_gcd T) hr rfl T.m_law_gcd T.F_law_gcd.kp T.b_law_gcd .nil pass0 (pa_cons (pv 4) (pa_cons (pv 3) pa_nil))))) (pss_one (ps_set (i := 2) sc_law_period.nd rfl (Or.inl rfl) (pe_op op_fdivW (pe_op op_mulI (pv 2) (pv 5)) (pe_call (ok_law_gcd T) hr rfl T.m_law_gcd T.F_law_gcd.kp T.b_law_gcd .nil pass0 (pa_cons (pv 2) (pa_cons (pv 5) pa_nil)))))))) (pss_one (ps_ret (pv 2))))), ?_⟩
    refine ⟨_, rfl, _, rfl, [s, t], rfl, rfl, all2 (sqT hs1) (sqL h2), ?_⟩
    refine for_it (CZ.walk_rows (xss := [ps.map V.int, ns.map V.int]) (n := ns.length) (lens2 (by rw [List.length_map, lp]) (by rw [List.length_map]))) (fun i σ H2 => ∃ y1 y2 y3 : Option V, σ = [some (.ref s), some (.ref t), some (.int (ordF ((ps.zip ns).take i))), y1, y2, y3] ∧ Ex H H2) ⟨_, _, _, rfl, exr⟩ (fun i σ H2 _ ⟨_, _, _, _, e⟩ => .cons (sqT (e _ _ hs1)) (.cons (sqL (e _ _ h2)) .nil)) ?_ ?_
    · rintro i x σ H2 H3 hi ⟨y1, y2, y3, rfl, e2⟩ yy
      obtain ⟨Ta, p, n, rfl, hT, rfl, hp, hn⟩ := yints2 yy
      have n1 := ok.one n (List.mem_of_getElem? hn)
      have n2 := hB n (List.mem_of_getElem? hn)
      obtain ⟨p0, p1⟩ := sk.at hn hp
      have lt : ((ps.zip ns).take i).length ≤ 4 := by
        rw [List.length_take, zip_len lp rfl]
        omega
      obtain ⟨o1, o2⟩ := ord_ok (zip_bound ok hB i) lt
      have ezs := take_more (zip_at hp hn)
      refine ⟨Ta, _, rfl, SqT.of upd_same, rfl, _, _, rfl, _, _, rfl, rfl, ?_⟩
      have g0 : (0 : Int) < gcdI p n := by
        have := gcd_pos2 (p := p) n1
        show (0 : Int) < ((Int.gcd p n : Nat) : Int)
        omega
      have gle : gcdI p n ≤ n := Int.le_of_dvd (by omega) (Int.gcd_dvd_right p n)
      have gsw : gcdI n p = gcdI p n := by
        show ((Int.gcd n p : Nat) : Int) = ((Int.gcd p n : Nat) : Int)
        rw [Int.gcd_comm]
      refine ⟨_, rfl, _, rfl, _, rfl, n, p, rfl, (by omega), p0, _, _, rfl, rfl, by rw [gsw]; exact wide_div g0 (abs45 (by omega) (by omega)) (by decide) (by decide), ?_⟩
      have q0 := per_pos (p := p) n1
      have q1 := per_le (p := p) (n := n)
      have q2 : perN p n < 2 ^ 150 := Nat.lt_of_le_of_lt q1 (abs45 (by omega) n2)
      dsimp only
      rw [gsw, per_int n1]
      have r0 : 0 < Nat.gcd (ordF ((ps.zip ns).take i)) (perN p n) := Nat.gcd_pos_of_pos_left _ o1
      have r1 : Nat.gcd (ordF ((ps.zip ns).take i)) (perN p n) ≤ perN p n := Nat.gcd_le_right _ q0
      refine ⟨_, rfl, _, rfl, _, _, rfl, rfl, (wide_mul (a := 600) (b := 150) (by rw [Int.natAbs_natCast]; exact o2) (by rw [Int.natAbs_natCast]; exact q2) (by decide) (by decide) (by decide)).ok, _, rfl, _, rfl, _, _, rfl, Int.natCast_nonneg _, Int.natCast_nonneg _, _, _, rfl, rfl, wide_div (b := 150) ?_ ?_ (by decide) (by decide), ?_⟩
      · show (0 : Int) < ((Nat.gcd (ordF ((ps.zip ns).take i)) (perN p n) : Nat) : Int)
        omega
      · show ((Nat.gcd (ordF ((ps.zip ns).take i)) (perN p n) : Nat) : Int).natAbs < 2 ^ 150
        rw [Int.natAbs_natCast]
        exact Nat.lt_of_le_of_lt r1 q2
      · have el : (ordF ((ps.zip ns).take i) : Int) * (perN p n : Int) / gcdI (ordF ((ps.zip ns).take i)) (perN p n) = ((Nat.lcm (ordF ((ps.zip ns).take i)) (perN p n) : Nat) : Int) := by
          show (ordF ((ps.zip ns).take i) : Int) * (perN p n : Int) / ((Nat.gcd (ordF ((ps.zip ns).take i)) (perN p n) : Nat) : Int) = _
          rw [← Int.natCast_mul, ← Int.natCast_ediv]
          rfl
        dsimp only
        rw [el, ezs, ord_snoc]
        exact ⟨_, _, _, rfl, fun c o z => exn hT _ _ (e2 c o z)⟩
    · rintro σ H2 ⟨y1, y2, y3, rfl, e2⟩
      rw [zip_take_len lp rfl]
      exact ⟨_, rfl, k _ e2⟩
end

/-! ### the halves, as the law finds them -/
theorem sorted_same : ∀ {xs ys : List Int}, xs.Pairwise (· < ·) → ys.Pairwise (· < ·) → (∀ k, k ∈ xs ↔ k ∈ ys) → xs = ys
  | [], [], _, _, _ => rfl
  | [], y :: ys, _, _, h => absurd ((h y).mpr List.mem_cons_self) (by simp)
  | x :: xs, [], _, _, h => absurd ((h x).mp List.mem_cons_self) (by simp)
  | x :: xs, y :: ys, hx, hy, h => by
    have hx2 := List.pairwise_cons.mp hx
    have hy2 := List.pairwise_cons.mp hy
    have e : x = y := by
      rcases List.mem_cons.mp ((h x).mp List.mem_cons_self) with z | z
      · exact z
      · rcases List.mem_cons.mp ((h y).mpr List.mem_cons_self) with u | u
        · exact u.symm
        · have := hy2.1 x z
          have := hx2.1 y u
          omega
    subst e
    rw [sorted_same hx2.2 hy2.2 fun k => ?_]
    constructor
    · intro hk
      rcases List.mem_cons.mp ((h k).mp (List.mem_cons_of_mem _ hk)) with z | z
      · have := hx2.1 k hk
        omega
      · exact z
    · intro hk
      rcases List.mem_cons.mp ((h k).mpr (List.mem_cons_of_mem _ hk)) with z | z
      · have := hy2.1 k hk
        omega
      · exact z
/-- what the law keeps -/
def someL (p n : Int) : List Int := if p % 2 = 1 then [(p + n) / 2].filter fun h => decide (h * 2 % n = p) else [p / 2, (p + n) / 2].filter fun h => decide (h * 2 % n = p) && decide (h < n)
theorem half_odd {p n : Int} (p0 : 0 ≤ p) (p1 : p < n) (ho : n % 2 = 1) : p * (n + 1) / 2 % n = if p % 2 = 0 then p / 2 else (p + n) / 2 := by
  obtain ⟨m, hm⟩ : ∃ m, n + 1 = 2 * m := ⟨(n + 1) / 2, by omega⟩
  have e1 : p * (n + 1) / 2 = p * m := by rw [hm, Int.mul_left_comm, Int.mul_ediv_cancel_left _ (by decide)]
  rw [e1]
  by_cases h : p % 2 = 0
  · rw [if_pos h]
    have e2 : p * m = p / 2 + n * (p / 2) := by
      have e3 : p = 2 * (p / 2) := by omega
      have e4 : n = 2 * m - 1 := by omega
      generalize p / 2 = r at *
      subst e3 e4
      grind
    rw [e2, Int.add_mul_emod_self_left, Int.emod_eq_of_lt (by omega) (by omega)]
  · rw [if_neg h]
    have e2 : p * m = (p + n) / 2 + n * (p / 2) := by
      have e3 : p = 2 * (p / 2) + 1 := by omega
      have e4 : (p + n) / 2 = p / 2 + m := by omega
      have e5 : n = 2 * m - 1 := by omega
      rw [e4]
      generalize p / 2 = r at *
      subst e3 e5
      grind
    rw [e2, Int.add_mul_emod_self_left, Int.emod_eq_of_lt (by omega) (by omega)]
theorem twice_mod {x n : Int} (h0 : 0 ≤ x) (h1 : x < 2 * n) : x % n = if x < n then x else x - n := by
  by_cases h : x < n
  · rw [if_pos h, Int.emod_eq_of_lt h0 h]
  · rw [if_neg h, ← Int.sub_emod_right, Int.emod_eq_of_lt (by omega) (by omega)]
theorem some_mem {p n : Int} (p0 : 0 ≤ p) (p1 : p < n) (k : Int) : k ∈ halfL p n ↔ k ∈ someL p n := by
  have t1 := twice_mod (x := p / 2 * 2) (n := n) (by omega) (by omega)
  have t2 := twice_mod (x := (p + n) / 2 * 2) (n := n) (by omega) (by omega)
  unfold halfL someL
  by_cases ho : n % 2 = 1
  · rw [if_pos ho, half_odd p0 p1 ho]
    by_cases h : p % 2 = 0
    · rw [if_pos h, if_neg (by omega)]
      simp only [List.mem_filter, List.mem_cons, List.not_mem_nil, or_false, Bool.and_eq_true, decide_eq_true_eq]
      constructor
      · rintro rfl
        refine ⟨.inl rfl, ?_, by omega⟩
        rw [t1]
        split <;> omega
      · rintro ⟨rfl | rfl, h2, h3⟩
        · rfl
        · rw [t2] at h2
          split at h2 <;> omega
    · rw [if_neg h, if_pos (by omega)]
      simp only [List.mem_filter, List.mem_cons, List.not_mem_nil, or_false, decide_eq_true_eq]
      constructor
      · rintro rfl
        refine ⟨rfl, ?_⟩
        rw [t2]
        split <;> omega
      · exact fun z => z.1
  · rw [if_neg ho]
    by_cases h : p % 2 = 0
    · rw [if_pos h, if_neg (by omega)]
      simp only [List.mem_filter, List.mem_cons, List.not_mem_nil, or_false, Bool.and_eq_true, decide_eq_true_eq]
      constructor
      · rintro (rfl | rfl)
        · refine ⟨.inl rfl, ?_, by omega⟩
          rw [t1]
          split <;> omega
        · refine ⟨.inr rfl, ?_, by omega⟩
          rw [t2]
          split <;> omega
      · exact fun z => z.1
    · rw [if_neg h, if_pos (by omega)]
      simp only [List.mem_filter, List.mem_cons, List.not_mem_nil, or_false, decide_eq_true_eq, false_iff, not_and]
      rintro rfl h2
      rw [t2] at h2
      split at h2 <;> omega
theorem half_sorted {p n : Int} (p0 : 0 ≤ p) (p1 : p < n) : (halfL p n).Pairwise (· < ·) := by
  unfold halfL
  split
  · exact List.pairwise_singleton _ _
  · split
    · refine List.pairwise_pair.mpr ?_
      omega
    · exact List.Pairwise.nil
theorem some_len (p n : Int) : (someL p n).length ≤ 2 := by
  unfold someL
  split
  · exact Nat.le_trans (List.length_filter_le _ _) (Nat.le_of_ble_eq_true rfl)
  · exact Nat.le_trans (List.length_filter_le _ _) (Nat.le_of_ble_eq_true rfl)

theorem eqT {i j : Int} (h : decide (V.int i = V.int j) = true) : i = j := V.int.inj (of_decide_eq_true h)
theorem eqF {i j : Int} (h : ¬decide (V.int i = V.int j) = true) : i ≠ j := fun z => h (decide_eq_true (by rw [z]))
/-- behind an if -/
theorem ifs_cutG {c : TT} {t u : TS} {D : Ends} {σ : L2.St} {H : Hp} (R : L2.St → Hp → Prop) (hR : ∀ σ2 H2, R σ2 H2 → D.nx σ2 H2) (h : ∀ N : L2.St → Hp → Prop, (∀ σ2 H2, R σ2 H2 → N σ2 H2) → tIfS c t u { D with nx := N } σ H) : tIfS c t u D σ H :=
  h D.nx hR
theorem exG {H H4 : Hp} {p : Addr} {o : HO} (h : upd H p o = H4) (n : H p = none) : Ex H H4 := h ▸ exn n
theorem atG {H H4 : Hp} {p : Addr} {o : HO} (h : upd H p o = H4) : H4 p = some o := h ▸ upd_same
theorem slen {n : Nat} (h : Nat.ble n 1000 = true) : n ≤ sizeLine := Nat.le_trans (Nat.le_of_ble_eq_true h) (by decide)
/-- a comprehension with a test: what passes, by f -/
theorem lc_filt {α : Type} {J : It} {n : Nat} {G : Hp → Prop} {Y : Nat → Hp → V → Hp → Prop} (w : Walk J n G Y) {g : TG} {tt : TT} {te : TE} {vs : List Nat} {σ : L2.St} {H1 : Hp} {D : Addr} {Qd : Hp → Prop} (xs : List α) (c : α → Bool) (f : α → V) (hn : xs.length = n) (hl : n ≤ 10000000) (hD : H1 D = none)
    (hG : ∀ H, Ex H1 H → G H)
    (hs : ∀ i x a H H2 (R : VK) (S : Hp → Prop), xs[i]? = some a → Ex H1 H → Y i H x H2 → (∀ y H5, Ex H H5 → c a = true → y = f a → R y H5) → (∀ H4, Ex H H4 → c a = false → S H4) → g x (wipe σ vs) H2 fun σ2 H3 => wipe σ2 vs = wipe σ vs ∧ tt σ2 H3 fun b H4 => if b = true then te σ2 H4 R else S H4)
    (hd : ∀ H, Ex H1 H → H D = some (.lst ((xs.filter c).map f)) → Qd H) :
    ∃ W : Nat → Nat → Hp → Prop, (∃ m, W 0 m (upd H1 D (.lst []))) ∧ ∀ i m H, W i m H →
      (J.stop i H ∧ Qd H) ∨ (J.go i H ∧ ∃ Nx : Hp → Prop, (∀ H2, Nx H2 → ∃ m2, m2 < m ∧ W (i + 1) m2 H2) ∧ ∀ x H2, J.yld i H x H2 → g x (wipe σ vs) H2 fun σ2 H3 => wipe σ2 vs = wipe σ vs ∧ tt σ2 H3 fun b H4 =>
        if b = true then te σ2 H4 fun y H5 => ∃ acc, H5 D = some (.lst acc) ∧ acc.length < sizeLine ∧ Nx (upd H5 D (.lst (acc ++ [y]))) else Nx H4) := by
  refine lc_out w (fun i => ((xs.take i).filter c).map f) (by simp) hD (fun i hi => ?_) hG (fun i x H H2 Nx hi e hDi y kA kN => ?_) (fun H e h => hd H e ?_)
  · rw [List.length_map]
    refine Nat.lt_of_le_of_lt (Nat.le_trans (List.length_filter_le _ _) (Nat.le_trans (by rw [List.length_take]; exact Nat.min_le_right _ _) (by rw [hn]; exact hl))) (by decide)
  · obtain ⟨a, ha⟩ : ∃ a, xs[i]? = some a := ⟨xs[i]'(by omega), List.getElem?_eq_getElem (by omega)⟩
    refine hs i x a H H2 _ _ ha e y (fun y2 H5 e5 hc hy => kA y2 H5 e5 ?_) (fun H4 e4 hc => kN H4 e4 ?_)
    · rw [take_more ha, List.filter_append, List.map_append, hy]
      simp [hc]
    · rw [take_more ha, List.filter_append, List.map_append]
      simp [hc]
  · rw [h, List.take_of_length_le (by rw [hn]; exact Nat.le_refl _)]
/-- rows that pass a test -/
theorem RowsR.filt {H : Hp} (c : List Int → Bool) : ∀ {xs : List V} {hss : List (List Int)}, RowsR H xs hss → RowsR H (((xs.zip hss).filter fun z => c z.2).map fun z => z.1) (hss.filter c)
  | _, _, .nil => .nil
  | _, _, .cons (a := x) (b := hs) q t => by
    have ih := RowsR.filt c t
    rw [List.zip_cons_cons]
    cases e : c hs with
    | false =>
      rw [List.filter_cons_of_neg (by simp [e]), List.filter_cons_of_neg (by simp [e])]
      exact ih
    | true =>
      rw [List.filter_cons_of_pos (by simp [e]), List.filter_cons_of_pos (by simp [e])]
      exact .cons q ih
theorem zip_at2 {α β : Type} {l : List α} {m : List β} {i : Nat} {z : α × β} (h : (l.zip m)[i]? = some z) : l[i]? = some z.1 ∧ m[i]? = some z.2 := by
  rw [List.getElem?_zip_eq_some] at h
  exact h
/-- tuple(s), s a list or a tuple -/
theorem tup_of {K : PySem.W.Frag} {H : Hp} {q : Bool × Addr} {xs : List V} {Q : VK} (h : SqH H q xs) (k : ∀ t H2, Ex H H2 → H2 t = some (.tup xs) → Q (.ref t) H2) : (SqL K H q.2 xs ∧ ∀ p, H p = none → Q (.ref p) (upd H p (.tup xs))) ∨ SqT K H q.2 xs ∧ Q (.ref q.2) H := by
  obtain ⟨b, a⟩ := q
  cases b
  · exact .inl ⟨SqL.of (show H a = some (.lst xs) from h), fun p hp => k p _ (exn hp) upd_same⟩
  · exact .inr ⟨SqT.of (show H a = some (.tup xs) from h), k a H exr h⟩
def rTupQ : List V → Hp → VK → Prop := fun vs H Q => ∃ (q : Bool × Addr) (xs : List V), vs = [.ref q.2] ∧ SqH H q xs ∧ ∀ t H2, Ex H H2 → H2 t = some (.tup xs) → Q (.ref t) H2
theorem call_tuple_q {X : Cx} : CallR X (.type "tuple") rTupQ := by
  intro pins s σ H vs us Q I r h
  obtain ⟨q, xs, rfl, hq, k⟩ := h
  exact call_tuple_of pins s σ H _ us Q I r ⟨q.2, xs, rfl, tup_of hq k⟩

section
variable {P : Program} {w : World} {K : PySem.W.Frag} {mg : Str → Option Value} {base : Heap}
def sp_law_halves : Sp := fun vs H Q _ => ∃ (s l : Addr) (ns ps : List Int), vs = [.ref s, .ref l] ∧ H l = some (.lst (ns.map V.int)) ∧ SzOk ns ∧ SzB ns ∧ H s = some (.tup (ps.map V.int)) ∧ SeatOk ns ps ∧ ∀ q H2, Ex H H2 → H q = none → RowsAt H2 q (halvesF (ps.zip ns)) → Q (.ref q) H2
theorem ok_law_halves (T : TX K mg) : FnOk P w K mg base CX0 1 T.f_law_halves T.fd_law_halves ["_law_origin", "_law_sizes"] sp_law_halves := by
  refine T.F_law_halves.ok sc_law_halves (fun vs H Q E h => ?_) (fun cdv A outer s H vs Q E hr h => ?_)
  · obtain ⟨s, l, ns, ps, rfl, _⟩ := h
    rfl
  · obtain ⟨s, t, ns, ps, rfl, h2, ok, hB, hs1, sk, k⟩ := h
    have l4 := ok.le
    have lp := sk.len
    refine ⟨_, (pss_cons (ps_set (i := 2) sc_law_halves.nd rfl (Or.inl rfl) (pe_lst (pa_cons (pe_tup pa_nil) pa_nil))) (pss_cons (ps_for PassesOwn.never rfl (CZ.pi_z2 (fl := [true, false]) rfl (by rfl) T.z_zip (pa_cons (pv 0) (pa_cons (pv 1) pa_nil))) (pg_tup rfl (pgs_cons (pg_name (i := 3) sc_law_halves.nd rfl (Or.inr rfl)) (pgs_cons (pg_name (i := 4) sc_law_halves.nd rfl (Or.inr rfl)) pgs_nil))) (pss_cons (ps_setLc (own := [("_law_half", 8)]) (g := (gName 8)) (i := 5) rfl sc_law_halves.nd rfl rfl (sw_true rfl rfl rfl (by decide +kernel)) (pi_list (pe_lst (pa_cons (pe_op op_fdivW (pv 3) pe_int) (pa_cons (pe_op op_fdivW (pe_op op_add (pv 3) (pv 4)) pe_int) pa_nil)))) (blkOk_by (N := N_law_halves) (sc := defScope s_law_halves) (by decide +kernel)) (fun _ _ _ _ _ => (pg_name (i := 8) sc_law_halves.nd rfl (Or.inl rfl))) (fun _ _ _ _ _ => (pts_one (PW.pt (pw_and (pt_cmpR op_eq (pe_op op_mod (pe_op op_mulI (pv 8) pe_int) (pv 4)) (pv 3) (nomark _)) (pw_and1 (pt_cmpR op_lt (pv 8) (pv 4) (nomark _))))))) (fun _ _ _ _ _ => (pv 8))) (pss_cons (ps_if (pt_cmpR op_eq (pe_op op_mod (pv 3) pe_int) pe_int (nomark _)) (pss_one (ps_setLc (own := [("_law_half", 8)]) (g := (gName 8)) (i := 5) rfl sc_law_halves.nd rfl rfl (sw_true rfl rfl rfl (by decide +kernel)) (pi_list (pe_lst (pa_cons (pe_op op_fdivW (pe_op op_add (pv 3) (pv 4)) pe_int) pa_nil))) (blkOk_by (N := N_law_halves) (sc := defScope s_law_halves) (by decide +kernel)) (fun _ _ _ _ _ => (pg_name (i := 8) sc_law_halves.nd rfl (Or.inl rfl))) (fun _ _ _ _ _ => (pts_one (pt_cmpR op_eq (pe_op op_mod (pe_op op_mulI (pv 8) pe_int) (pv 4)) (pv 3) (nomark _)))) (fun _ _ _ _ _ => (pv 8)))) pss_nil) (pss_cons (ps_set (i := 6) sc_law_halves.nd rfl (Or.inl rfl) (pe_lst pa_nil)) (pss_cons (ps_for PassesOwn.never rfl (pi_list (pv 2)) (pg_name (i := 7) sc_law_halves.nd rfl (Or.inr rfl)) (pss_one (ps_expr (pe_bm PySem.F.plainAttrs_list PySem.F.slot_list_extend PySem.F.type_list_extend mt_extend (pv 6) (pa_cons (pe_lc (own := [("_law_half", 8)]) (g := (gName 8)) rfl sc_law_halves.nd (pi_list (pe_callB (cr_sortedSet rfl) (by rfl) T.z_sorted (by decide +kernel) (pa_cons (pe_callTy (CL.call_setI rfl) (by rfl) T.z_set (by decide +kernel) (pa_cons (pv 5) pa_nil)) pa_nil))) (blkOk_by (N := N_law_halves) (sc := defScope s_law_halves) (by decide +kernel)) (fun _ _ _ _ _ => (pg_name (i := 8) sc_law_halves.nd rfl (Or.inl rfl))) (fun _ _ _ _ _ => pts_nil) (fun _ _ _ _ _ => (pe_op (r := rCatA K) op_catA (pv 7) (pe_tup (pa_cons (pv 8) pa_nil))))) pa_nil))))) (pss_one (ps_set (i := 2) sc_law_halves.nd rfl (Or.inl rfl) (pv 6)))))))) (pss_one (ps_ret (pv 2))))), ?_⟩
    refine ⟨by show 0 ≤ sizeLine; decide, fun u hu => ⟨by show 1 ≤ sizeLine; decide, fun f hf => ?_⟩⟩
    have e2 : Ex H (upd (upd H u (.tup [])) f (.lst [.ref u])) := ext (exn hu) (exn hf)
    have f0 : H f = none := Evl.fresh_back (exn hu) hf
    refine ⟨_, rfl, _, rfl, [s, t], rfl, rfl, all2 (sqT (e2 _ _ hs1)) (sqL (e2 _ _ h2)), ?_⟩
    refine for_it (CZ.walk_rows (xss := [ps.map V.int, ns.map V.int]) (n := ns.length) (lens2 (by rw [List.length_map, lp]) (by rw [List.length_map]))) (fun i σ H2 => ∃ (f : Addr) (y1 y2 y3 y4 y5 y6 : Option V), σ = [some (.ref s), some (.ref t), some (.ref f), y1, y2, y3, y4, y5, y6] ∧ Ex H H2 ∧ H f = none ∧ RowsAt H2 f (halvesF ((ps.zip ns).take i))) ⟨_, _, _, _, _, _, _, rfl, e2, f0, _, upd_same, .cons ⟨u, rfl, by rw [upd_ne (ne_of_none upd_same hf)]; exact upd_same⟩ .nil⟩ (fun i σ H2 _ ⟨_, _, _, _, _, _, _, _, e, _⟩ => .cons (sqT (e _ _ hs1)) (.cons (sqL (e _ _ h2)) .nil)) ?_ ?_
    · rintro i x σ H2 H3 hi ⟨f, y1, y2, y3, y4, y5, y6, rfl, e3, f0, ra⟩ yy
      obtain ⟨Ta, p, n, rfl, hT, rfl, hp, hn⟩ := yints2 yy
      have n1 := ok.one n (List.mem_of_getElem? hn)
      have n2 := hB n (List.mem_of_getElem? hn)
      obtain ⟨p0, p1⟩ := sk.at hn hp
      have lt : ((ps.zip ns).take i).length ≤ 4 := by
        rw [List.length_take, zip_len lp rfl]
        omega
      have few := halves_few lt
      have ezs := take_more (zip_at hp hn)
      refine ⟨Ta, _, rfl, SqT.of upd_same, rfl, _, _, rfl, _, _, rfl, rfl, ?_⟩
      have e4 : Ex H2 (upd H2 Ta (.tup [.int p, .int n])) := exn hT
      (repeat (first | refine ⟨rfl, ?_⟩ | refine ⟨_, rfl, ?_⟩ | refine ⟨_, _, rfl, rfl, ?_⟩ | refine ⟨_, _, rfl, ?_⟩ | refine ⟨slen rfl, ?_⟩ | refine ⟨⟨by decide, by decide +kernel⟩, ?_⟩ | refine ⟨(by show (0 : Int) < _; first | decide | assumption | omega), ?_⟩ | refine ⟨mul_ok (by first | exact .inr (by decide) | exact .inl (by decide)), ?_⟩))
      (intro L1 nL1; generalize hGL1 : upd _ L1 _ = H5; have eH5 := exG hGL1 nL1; have hL1 := atG hGL1; clear hGL1)
      refine ⟨_, rfl, ⟨_, SqL.of hL1⟩, ?_⟩
      intro D hD
      refine lc_filt (walk_list (xs := [p / 2, (p + n) / 2].map V.int)) [p / 2, (p + n) / 2] (fun h => decide (h * 2 % n = p) && decide (h < n)) V.int rfl (Nat.le_of_ble_eq_true rfl) hD (fun H e => SqL.of (e _ _ hL1)) ?_ ?_
      · rintro j x a _ H6 R S ha e6 ⟨rfl, hx⟩ kR kS
        obtain ⟨a2, ha2, rfl⟩ := map_get hx
        obtain rfl : a = a2 := Option.some.inj (ha.symm.trans ha2)
        (repeat (first | refine ⟨rfl, ?_⟩ | refine ⟨_, rfl, ?_⟩ | refine ⟨_, _, rfl, rfl, ?_⟩ | refine ⟨_, _, rfl, ?_⟩ | refine ⟨slen rfl, ?_⟩ | refine ⟨⟨by decide, by decide +kernel⟩, ?_⟩ | refine ⟨(by show (0 : Int) < _; first | decide | assumption | omega), ?_⟩ | refine ⟨mul_ok (by first | exact .inr (by decide) | exact .inl (by decide)), ?_⟩))
        refine ite2 (fun hc => ?_) (fun hc => ?_)
        · (repeat (first | refine ⟨rfl, ?_⟩ | refine ⟨_, rfl, ?_⟩ | refine ⟨_, _, rfl, rfl, ?_⟩ | refine ⟨_, _, rfl, ?_⟩ | refine ⟨slen rfl, ?_⟩ | refine ⟨⟨by decide, by decide +kernel⟩, ?_⟩ | refine ⟨(by show (0 : Int) < _; first | decide | assumption | omega), ?_⟩ | refine ⟨mul_ok (by first | exact .inr (by decide) | exact .inl (by decide)), ?_⟩))
          refine ite2 (fun hd => ?_) (fun hd => ?_)
          · exact ⟨_, rfl, kR _ _ exr (by simp [eqT hc, of_decide_eq_true hd]) rfl⟩
          · exact kS _ exr (by simp [eqT hc]; simpa using hd)
        · exact itf rfl (kS _ exr (by simp [eqF hc]))
      intro H6 e6 hD6
      dsimp only [gName, tSeq]
      refine ifs_cutG (fun σ2 H7 => ∃ L2 y8, σ2 = [some (.ref s), some (.ref t), some (.ref f), some (.int p), some (.int n), some (.ref L2), y4, y5, y8] ∧ Ex H6 H7 ∧ H7 L2 = some (.lst ((someL p n).map V.int))) ?_ ?_
      · rintro _ H7 ⟨L2, y8, rfl, e7, hL2⟩
        (repeat (first | refine ⟨rfl, ?_⟩ | refine ⟨_, rfl, ?_⟩ | refine ⟨_, _, rfl, rfl, ?_⟩ | refine ⟨_, _, rfl, ?_⟩ | refine ⟨slen rfl, ?_⟩ | refine ⟨⟨by decide, by decide +kernel⟩, ?_⟩ | refine ⟨(by show (0 : Int) < _; first | decide | assumption | omega), ?_⟩ | refine ⟨mul_ok (by first | exact .inr (by decide) | exact .inl (by decide)), ?_⟩))
        (intro L nL; generalize hGL : upd _ L _ = H8; have eH8 := exG hGL nL; have hL := atG hGL; clear hGL)
        have E7 : Ex H2 H7 := ext e4 (ext eH5 (ext e6 e7))
        have E8 : Ex H2 H8 := ext E7 eH8
        have hL8 := eH8 _ _ hL2
        obtain ⟨xs, ra0, rr0⟩ := ra
        have ra8 := E8 _ _ ra0
        have rr := rr0.mono E8
        generalize hh : halvesF ((ps.zip ns).take i) = hss at rr few
        refine ⟨_, rfl, f, rfl, ⟨_, SqL.of ra8⟩, ?_⟩
        refine for_it (walk_list (xs := xs)) (fun j σ H9 => ∃ y7 y9 : Option V, σ = [some (.ref s), some (.ref t), some (.ref f), some (.int p), some (.int n), some (.ref L2), some (.ref L), y7, y9] ∧ Ex H7 H9 ∧ RowsAt H9 L (crossL (hss.take j) (halfL p n)) ∧ H9 f = some (.lst xs) ∧ RowsR H9 xs hss) ⟨_, _, rfl, eH8, ⟨_, hL, .nil⟩, ra8, rr⟩ (fun j σ H3 _ ⟨_, _, _, _, _, e, _⟩ => SqL.of e) ?_ ?_
        · rintro j x σ _ H9 hj ⟨y7, y9, rfl, e9, rb, ra9, rr9⟩ ⟨rfl, hx⟩
          obtain ⟨hs, r, hhs, rfl, hr9⟩ := rr9.get hx
          obtain ⟨ys, hy1, hy2⟩ := id rb
          have hsl := halves_rows ((ps.zip ns).take i) [[]] 0 (fun hs z => by rw [List.mem_singleton.mp z]; rfl) hs (by have := List.mem_of_getElem? hhs; rw [← hh] at this; exact this)
          have ks2 := half_len p n
          refine ⟨_, rfl, .inl ⟨rfl, _, SqL.of hy1⟩, ?_⟩
          (repeat (first | refine ⟨rfl, ?_⟩ | refine ⟨_, rfl, ?_⟩ | refine ⟨_, _, rfl, rfl, ?_⟩ | refine ⟨_, _, rfl, ?_⟩ | refine ⟨slen rfl, ?_⟩ | refine ⟨⟨by decide, by decide +kernel⟩, ?_⟩ | refine ⟨(by show (0 : Int) < _; first | decide | assumption | omega), ?_⟩ | refine ⟨mul_ok (by first | exact .inr (by decide) | exact .inl (by decide)), ?_⟩))
          refine ⟨L2, someL p n, rfl, SqL.of (e9 _ _ hL2), ?_, ?_⟩
          · have := some_len p n
            exact Nat.lt_of_le_of_lt (show _ ≤ 3 by omega) (by decide)
          intro u c nu hc
          generalize hGu : upd _ u _ = Ha
          have ea := exG hGu nu
          have hu := atG hGu
          clear hGu
          refine ⟨u, _, c, rfl, hu, by have := some_len p n; omega, fun ks v sk2 hm hl nv => ?_⟩
          obtain rfl : ks = halfL p n := sorted_same sk2 (half_sorted p0 p1) fun k => by rw [hm, some_mem p0 p1]; simp
          generalize hGv : upd _ v _ = Hb
          have eb := exG hGv nv
          have hv := atG hGv
          clear hGv
          refine ⟨v, rfl, ⟨_, SqL.of hv⟩, fun D2 hD2 => ?_⟩
          have E9b : Ex H9 Hb := ext ea eb
          refine lc_rows walk_list hs (halfL p n) (by rw [List.length_map]) (by rw [List.length_map]; omega) hD2 (fun H e => SqL.of (e _ _ hv)) ?_ gmono_name ?_
          · rintro m x _ Hc R hm ec ⟨rfl, hx⟩ kk
            obtain ⟨h, hh2, rfl⟩ := map_get hx
            (repeat (first | refine ⟨rfl, ?_⟩ | refine ⟨_, rfl, ?_⟩ | refine ⟨_, _, rfl, rfl, ?_⟩ | refine ⟨_, _, rfl, ?_⟩ | refine ⟨slen rfl, ?_⟩ | refine ⟨⟨by decide, by decide +kernel⟩, ?_⟩ | refine ⟨(by show (0 : Int) < _; first | decide | assumption | omega), ?_⟩ | refine ⟨mul_ok (by first | exact .inr (by decide) | exact .inl (by decide)), ?_⟩))
            intro u3 hu3
            refine cat_row (exn hu3 _ _ (ec _ _ (E9b _ _ hr9))) upd_same (by rw [hsl]; omega) fun z H6 e7 hz => kk _ z H6 (ext (exn hu3) e7) hh2 hz
          · intro Hc ec rc
            have neL : L ≠ D2 := ne_of_none (E9b _ _ hy1) hD2
            obtain ⟨as, bs, g1, g2, g3, g4, g5⟩ := rows_ext (rb.mono (ext E9b ec)) rc neL
            refine ⟨L, D2, as, bs, rfl, rfl, g1, g2, ?_, ?_⟩
            · simp only [g3, g4, cross_len, List.length_map, List.length_take]
              have : min j hss.length * (halfL p n).length ≤ 16 * 2 := Nat.mul_le_mul (Nat.le_trans (Nat.min_le_right _ _) few) ks2
              exact Nat.le_trans (show _ ≤ 34 by omega) (by decide)
            · refine ⟨_, _, rfl, ex_upd (ext e9 (ext E9b ec)) nL, ?_, ?_, ?_⟩
              · rw [take_more hhs, cross_snoc]
                exact g5
              · rw [upd_ne (ne_of_none (E7 _ _ ra0) nL)]
                exact ec _ _ (E9b _ _ ra9)
              · exact (rr9.mono (ext E9b ec)).upd g1
        · rintro σ H9 ⟨y7, y9, rfl, e9, rb, _⟩
          rw [rr.len, List.take_length] at rb
          rw [ezs, halves_snoc, hh]
          exact ⟨_, rfl, L, _, _, _, _, _, _, rfl, ext e3 (ext E7 e9), Evl.fresh_back e3 (Evl.fresh_back E7 nL), rb⟩
      · intro N hN
        (repeat (first | refine ⟨rfl, ?_⟩ | refine ⟨_, rfl, ?_⟩ | refine ⟨_, _, rfl, rfl, ?_⟩ | refine ⟨_, _, rfl, ?_⟩ | refine ⟨slen rfl, ?_⟩ | refine ⟨⟨by decide, by decide +kernel⟩, ?_⟩ | refine ⟨(by show (0 : Int) < _; first | decide | assumption | omega), ?_⟩ | refine ⟨mul_ok (by first | exact .inr (by decide) | exact .inl (by decide)), ?_⟩))
        refine ite2 (fun hc => ?_) (fun hc => ?_)
        · (repeat (first | refine ⟨rfl, ?_⟩ | refine ⟨_, rfl, ?_⟩ | refine ⟨_, _, rfl, rfl, ?_⟩ | refine ⟨_, _, rfl, ?_⟩ | refine ⟨slen rfl, ?_⟩ | refine ⟨⟨by decide, by decide +kernel⟩, ?_⟩ | refine ⟨(by show (0 : Int) < _; first | decide | assumption | omega), ?_⟩ | refine ⟨mul_ok (by first | exact .inr (by decide) | exact .inl (by decide)), ?_⟩))
          (intro L3 nL3; generalize hGL3 : upd _ L3 _ = H7; have eH7 := exG hGL3 nL3; have hL3 := atG hGL3; clear hGL3)
          refine ⟨_, rfl, ⟨_, SqL.of hL3⟩, ?_⟩
          intro D3 hD3
          refine lc_filt (walk_list (xs := [(p + n) / 2].map V.int)) [(p + n) / 2] (fun h => decide (h * 2 % n = p)) V.int rfl (Nat.le_of_ble_eq_true rfl) hD3 (fun H e => SqL.of (e _ _ hL3)) ?_ ?_
          · rintro j x a _ H6 R S ha e6 ⟨rfl, hx⟩ kR kS
            obtain ⟨a2, ha2, rfl⟩ := map_get hx
            obtain rfl : a = a2 := Option.some.inj (ha.symm.trans ha2)
            (repeat (first | refine ⟨rfl, ?_⟩ | refine ⟨_, rfl, ?_⟩ | refine ⟨_, _, rfl, rfl, ?_⟩ | refine ⟨_, _, rfl, ?_⟩ | refine ⟨slen rfl, ?_⟩ | refine ⟨⟨by decide, by decide +kernel⟩, ?_⟩ | refine ⟨(by show (0 : Int) < _; first | decide | assumption | omega), ?_⟩ | refine ⟨mul_ok (by first | exact .inr (by decide) | exact .inl (by decide)), ?_⟩))
            refine ite2 (fun hc => ?_) (fun hc => ?_)
            · exact ⟨_, rfl, kR _ _ exr (by simp [eqT hc]) rfl⟩
            · exact kS _ exr (by simp [eqF hc])
          · intro H8 e8 hD8
            exact hN _ _ ⟨D3, _, rfl, ext eH7 e8, by rw [hD8, someL, if_pos (eqT hc)]⟩
        · exact hN _ _ ⟨D, _, rfl, exr, by rw [hD6, someL, if_neg (eqF hc)]⟩
    · rintro σ H2 ⟨f, y1, y2, y3, y4, y5, y6, rfl, e2, f0, ra⟩
      rw [zip_take_len lp rfl] at ra
      exact ⟨_, rfl, k f _ e2 f0 ra⟩
end

theorem half_iff {p n : Int} (p0 : 0 ≤ p) (p1 : p < n) (k : Int) : k ∈ halfL p n ↔ 0 ≤ k ∧ k < n ∧ (k + 1 * k) % n = p := by
  have e2 : k + 1 * k = k * 2 := by omega
  rw [e2]
  constructor
  · intro h
    rw [some_mem p0 p1] at h
    unfold someL at h
    by_cases c : p % 2 = 1
    · rw [if_pos c] at h
      simp only [List.mem_filter, List.mem_cons, List.not_mem_nil, or_false, decide_eq_true_eq] at h
      obtain ⟨rfl, h⟩ := h
      exact ⟨by omega, by omega, h⟩
    · rw [if_neg c] at h
      simp only [List.mem_filter, List.mem_cons, List.not_mem_nil, or_false, Bool.and_eq_true, decide_eq_true_eq] at h
      obtain ⟨h1, h2, h3⟩ := h
      refine ⟨by rcases h1 with rfl | rfl <;> omega, h3, h2⟩
  · rintro ⟨k0, k1, h⟩
    have t := twice_mod (x := k * 2) (n := n) (by omega) (by omega)
    rw [h] at t
    rw [some_mem p0 p1]
    unfold someL
    by_cases c : p % 2 = 1
    · rw [if_pos c]
      simp only [List.mem_filter, List.mem_cons, List.not_mem_nil, or_false, decide_eq_true_eq]
      refine ⟨?_, h⟩
      split at t <;> omega
    · rw [if_neg c]
      simp only [List.mem_filter, List.mem_cons, List.not_mem_nil, or_false, Bool.and_eq_true, decide_eq_true_eq]
      refine ⟨?_, h, k1⟩
      split at t <;> omega
theorem half_range {p n : Int} (p0 : 0 ≤ p) (p1 : p < n) : (((List.range n.toNat).map fun (i : Nat) => (i : Int)).filter fun k => decide ((k + 1 * k) % n = p)) = halfL p n := by
  refine sorted_same ?_ (half_sorted p0 p1) fun k => ?_
  · refine List.Pairwise.sublist List.filter_sublist ?_
    rw [List.pairwise_map]
    exact List.pairwise_lt_range.imp fun h => by omega
  · rw [half_iff p0 p1]
    simp only [List.mem_filter, List.mem_map, List.mem_range, decide_eq_true_eq]
    constructor
    · rintro ⟨⟨i, hi, rfl⟩, h⟩
      exact ⟨by omega, by omega, h⟩
    · rintro ⟨k0, k1, h⟩
      exact ⟨⟨k.toNat, by omega, by omega⟩, h⟩
theorem shift_snoc {f : Int} : ∀ {ns ps cs : List Int} {n p c : Int}, ps.length = ns.length → cs.length = ns.length → shiftL (ns ++ [n]) (ps ++ [p]) (cs ++ [c]) f = shiftL ns ps cs f ++ [(p + f * c) % n]
  | [], [], [], _, _, _, _, _ => rfl
  | n :: ns, p :: ps, c :: cs, n2, p2, c2, h1, h2 => by
    have := shift_snoc (f := f) (ns := ns) (ps := ps) (cs := cs) (n := n2) (p := p2) (c := c2) (Nat.succ.inj h1) (Nat.succ.inj h2)
    simp only [List.cons_append, shiftL, this]
theorem cross_filter {p1 p2 : List Int → Bool} {q : Int → Bool} {ks : List Int} : ∀ {hss : List (List Int)}, (∀ hs ∈ hss, ∀ k ∈ ks, p2 (hs ++ [k]) = (p1 hs && q k)) → (crossL hss ks).filter p2 = crossL (hss.filter p1) (ks.filter q)
  | [], _ => rfl
  | hs :: hss, h => by
    have ih := cross_filter (p1 := p1) (p2 := p2) (q := q) (ks := ks) (hss := hss) fun hs hh => h hs (List.mem_cons_of_mem _ hh)
    have h1 := h hs List.mem_cons_self
    unfold crossL at ih ⊢
    rw [List.flatMap_cons, List.filter_append, ih]
    cases c : p1 hs with
    | false =>
      rw [List.filter_cons_of_neg (by simp [c])]
      have : (ks.map fun k => hs ++ [k]).filter p2 = [] := by
        rw [List.filter_eq_nil_iff]
        intro z hz
        obtain ⟨k, hk, rfl⟩ := List.mem_map.mp hz
        rw [h1 k hk, c]
        simp
      rw [this, List.nil_append]
    | true =>
      rw [List.filter_cons_of_pos (by simp [c]), List.flatMap_cons]
      congr 1
      rw [List.filter_map]
      congr 1
      refine List.filter_congr fun k hk => ?_
      show p2 (hs ++ [k]) = q k
      rw [h1 k hk, c]
      rfl
theorem SeatOk.unsnoc : ∀ {ns ps : List Int} {n p : Int}, SeatOk (ns ++ [n]) (ps ++ [p]) → ps.length = ns.length → SeatOk ns ps ∧ 0 ≤ p ∧ p < n
  | [], [], _, _, h, _ => ⟨True.intro, h.1.1, h.1.2⟩
  | n :: ns, p :: ps, _, _, h, l => by
    obtain ⟨g1, g2⟩ := SeatOk.unsnoc (ns := ns) (ps := ps) h.2 (Nat.succ.inj l)
    exact ⟨⟨h.1, g1⟩, g2⟩
theorem all_len : ∀ {ns : List Int} {hss : List (List Int)} {m : Nat}, (∀ hs ∈ hss, hs.length = m) → ∀ hs ∈ ns.foldl (fun hss n => crossL hss ((List.range n.toNat).map fun (i : Nat) => (i : Int))) hss, hs.length = m + ns.length
  | [], _, _, h => h
  | n :: ns, hss, m, h => fun hs hh => by
    have := all_len (ns := ns) (hss := crossL hss ((List.range n.toNat).map fun (i : Nat) => (i : Int))) (m := m + 1) (fun ks hk => by
      obtain ⟨us, hu, hk⟩ := List.mem_flatMap.mp hk
      obtain ⟨k, _, rfl⟩ := List.mem_map.mp hk
      rw [List.length_append, h us hu]
      rfl) hs hh
    rw [this, List.length_cons]
    omega
theorem all_half : ∀ (k : Nat) {ns ps : List Int}, ns.length = k → SeatOk ns ps → (allL ns).filter (fun h => decide (shiftL ns h h 1 = ps)) = halvesF (ps.zip ns)
  | 0, ns, ps, hk, sk => by
    have : ns = [] := List.length_eq_zero_iff.mp hk
    subst this
    have : ps = [] := List.length_eq_zero_iff.mp sk.len
    subst this
    rfl
  | k + 1, ns, ps, hk, sk => by
    rcases List.eq_nil_or_concat ns with rfl | ⟨ns, n, rfl⟩
    · simp at hk
    have lp := sk.len
    rcases List.eq_nil_or_concat ps with rfl | ⟨ps, p, rfl⟩
    · simp at lp
    simp only [List.concat_eq_append] at hk sk lp ⊢
    have lp2 : ps.length = ns.length := by simpa using lp
    obtain ⟨s1, p0, p1⟩ := sk.unsnoc lp2
    have hk2 : ns.length = k := by simpa using hk
    rw [all_snoc, List.zip_append lp2, List.zip_cons_cons, List.zip_nil_right, halves_snoc, ← all_half k hk2 s1, ← half_range p0 p1]
    refine cross_filter fun hs hh k _ => ?_
    have lh := all_len (ns := ns) (hss := [[]]) (m := 0) (fun hs z => by rw [List.mem_singleton.mp z]; rfl) hs hh
    have lh2 : hs.length = ns.length := by omega
    rw [shift_snoc lh2 lh2, ← Bool.decide_and, decide_eq_decide]
    constructor
    · intro z
      obtain ⟨z1, z2⟩ := List.append_inj z (by rw [shift_len lh2 lh2, lp2])
      exact ⟨z1, by simpa using z2⟩
    · rintro ⟨z1, z2⟩
      rw [z1, z2]
theorem shift_rest {n p c g : Int} : ((p + g * c) % n + 1 * c) % n = (p + (g + 1) * c) % n := by
  rw [Int.emod_add_emod]
  congr 1
  grind
theorem shift_add : ∀ {ns ps cs : List Int} {g : Int}, ps.length = ns.length → cs.length = ns.length → shiftL ns (shiftL ns ps cs g) cs 1 = shiftL ns ps cs (g + 1)
  | [], [], [], _, _, _ => rfl
  | n :: ns, p :: ps, c :: cs, g, h1, h2 => by
    have := shift_add (g := g) (ns := ns) (ps := ps) (cs := cs) (Nat.succ.inj h1) (Nat.succ.inj h2)
    simp only [shiftL, this, shift_rest]
theorem shift_one : ∀ {ns ps : List Int}, SeatOk ns ps → shiftL ns (List.replicate ns.length 0) ps 1 = ps
  | [], [], _ => rfl
  | n :: ns, p :: ps, h => by
    have := shift_one h.2
    simp only [List.length_cons, List.replicate_succ, shiftL, this]
    congr 1
    rw [Int.zero_add, Int.one_mul, Int.emod_eq_of_lt h.1.1 h.1.2]
/-- copies: when their sum is the zero seat -/
theorem copies_zero {ns ps : List Int} (ok : SzOk ns) (sk : SeatOk ns ps) (c : Nat) : shiftL ns (List.replicate ns.length 0) ps c = List.replicate ns.length 0 ↔ ordF (ps.zip ns) ∣ c := by
  have z0 := shift_zero (cs := ps) (zero_seat ok.one) sk.len
  rw [ord_dvd (fun z hz => ok.one _ (List.of_mem_zip (show (z.1, z.2) ∈ ps.zip ns from hz)).2)]
  have := shift_same (f := (c : Int)) (g := 0) (ns := ns) (ps := List.replicate ns.length 0) (cs := ps) (by simp) sk.len
  rw [z0] at this
  rw [this]
  simp
theorem all_seat : ∀ (k : Nat) {ns : List Int}, ns.length = k → ∀ hs ∈ allL ns, SeatOk ns hs
  | 0, ns, hk => fun hs hh => by
    have : ns = [] := List.length_eq_zero_iff.mp hk
    subst this
    rw [List.mem_singleton.mp hh]
    exact True.intro
  | k + 1, ns, hk => fun hs hh => by
    rcases List.eq_nil_or_concat ns with rfl | ⟨ns, n, rfl⟩
    · simp at hk
    simp only [List.concat_eq_append] at hk hh ⊢
    rw [all_snoc] at hh
    obtain ⟨us, hu, hk2⟩ := List.mem_flatMap.mp hh
    obtain ⟨k, hk3, rfl⟩ := List.mem_map.mp hk2
    obtain ⟨i, hi, rfl⟩ := List.mem_map.mp hk3
    have := List.mem_range.mp hi
    exact (all_seat _ (by simpa using hk) us hu).snoc (by omega) (by omega)

/-- a small table's sizes -/
def Sml (ns : List Int) : Prop := SzOk ns ∧ ∀ n ∈ ns, 0 ≤ n ∧ n ≤ 12
theorem sml {ns : List Int} (h1 : ns ≠ []) (h2 : ns.length ≤ 4) (h3 : ∀ n ∈ ns, 1 ≤ n ∧ n ≤ 12) : Sml ns := ⟨⟨h1, h2, fun n hn => (h3 n hn).1⟩, fun n hn => ⟨by have := (h3 n hn).1; omega, (h3 n hn).2⟩⟩
section
variable {P : Program} {w : World} {K : PySem.W.Frag} {mg : Str → Option Value} {base : Heap}
def sp_law_check_small : Sp := fun vs H Q _ => ∃ (s : Addr), vs = [.ref s] ∧ Src H s ∧ ∀ H2, XB s H H2 → Src H2 s → Q (.bl true) H2
theorem ok_law_check_small (T : TX K mg) : FnOk P w K mg base CX0 6 T.f_law_check_small T.fd_law_check_small ["_law_source_here"] sp_law_check_small := by
  refine T.F_law_check_small.ok sc_law_check_small (fun vs H Q E h => ?_) (fun cdv A outer s H vs Q E hr h => ?_)
  · obtain ⟨s, rfl, _⟩ := h
    rfl
  · obtain ⟨s, rfl, hs, k⟩ := h
    refine ⟨_, (pss_cons (ps_set (i := 1) sc_law_check_small.nd rfl (Or.inr rfl) (pe_ix ix_list (pe_lst (pa_cons (pe_lst (pa_cons pe_int (pa_cons pe_int pa_nil))) (pa_cons (pe_lst (pa_cons pe_int pa_nil)) (pa_cons (pe_lst (pa_cons pe_int (pa_cons pe_int pa_nil))) (pa_cons (pe_lst (pa_cons pe_int pa_nil)) (pa_cons (pe_lst (pa_cons pe_int (pa_cons pe_int (pa_cons pe_int pa_nil)))) (pa_cons (pe_lst (pa_cons pe_int pa_nil)) (pa_cons (pe_lst (pa_cons pe_int (pa_cons pe_int pa_nil))) (pa_cons (pe_lst (pa_cons pe_int pa_nil)) (pa_cons (pe_lst (pa_cons pe_int (pa_cons pe_int (pa_cons pe_int (pa_cons pe_int pa_nil))))) (pa_cons (pe_lst (pa_cons pe_int pa_nil)) pa_nil))))))))))) (pe_call (ok_law_take T) (hr.mono (by decide)) rfl T.m_law_take T.F_law_take.kp T.b_law_take .nil pass0 (pa_cons (pv 0) (pa_cons pe_int pa_nil))) (fun _ _ => rfl))) (pss_cons (ps_par (i := 2) (j := 3) rfl sc_law_check_small.nd rfl rfl (by decide) rfl rfl (pa_cons (pe_make T.M_Table (ok_Table_init T) (hr.mono (by decide)) rfl T.m_Table T.b_Table_init .nil pass0 (pa_cons (pv 1) pa_nil)) (pa_cons (pe_call (ok_law_all T) (hr.mono (by decide)) rfl T.m_law_all T.F_law_all.kp T.b_law_all .nil pass0 (pa_cons (pv 1) pa_nil)) pa_nil)) (by rfl)) (pss_cons (ps_set (i := 4) sc_law_check_small.nd rfl (Or.inl rfl) (pe_op (r := rRepA K) op_repA (pe_tup (pa_cons pe_int pa_nil)) (pe_callB call_len_seq (by rfl) T.z_len (by decide +kernel) (pa_cons (pv 1) pa_nil)))) (pss_cons (ps_for PassesOwn.never rfl (pi_list (pv 3)) (pg_name (i := 5) sc_law_check_small.nd rfl (Or.inr rfl)) (pss_cons (ps_par (i := 6) (j := 7) rfl sc_law_check_small.nd rfl rfl (by decide) rfl rfl (pa_cons (pv 5) (pa_cons pe_int pa_nil)) (by rfl)) (pss_cons (ps_while PassesOwn.never (pt_cmpR (r := rNeD K) (op_neD hr.units) (pv 6) (pv 4) (nomark _)) (pss_one (ps_par (i := 6) (j := 7) rfl sc_law_check_small.nd rfl rfl (by decide) rfl rfl (pa_cons (pe_call (ok_law_sum T) (hr.mono (by decide)) rfl T.m_law_sum T.F_law_sum.kp T.b_law_sum .nil pass0 (pa_cons (pv 6) (pa_cons (pv 5) (pa_cons (pv 1) pa_nil)))) (pa_cons (pe_op op_add (pv 7) pe_int) pa_nil)) (by rfl)))) (pss_cons (ps_if (pt_cmpR op_ne (pe_meth (pv 2) T.cl_Table T.me_Table_order (ok_Table_order T) hr T.b_Table_order .nil pass0 (pa_cons (pv 5) pa_nil)) (pv 7) (nomark _)) (pss_one (ps_ret pe_bl)) pss_nil) (pss_one (ps_if (pt_cmpR (r := rNeD K) (op_neD hr.units) (pe_meth (pv 2) T.cl_Table T.me_Table_halves (ok_Table_halves T) hr T.b_Table_halves .nil pass0 (pa_cons (pv 5) pa_nil)) (pe_lc (own := [("_law_half", 8)]) (g := (gName 8)) rfl sc_law_check_small.nd (pi_list (pv 3)) (blkOk_by (N := N_law_check_small) (sc := defScope s_law_check_small) (by decide +kernel)) (fun _ _ _ _ _ => (pg_name (i := 8) sc_law_check_small.nd rfl (Or.inl rfl))) (fun _ _ _ _ _ => (pts_one (pt_cmpR (r := rEqD K) (op_eqD hr.units) (pe_call (ok_law_sum T) (hr.mono (by decide)) rfl T.m_law_sum T.F_law_sum.kp T.b_law_sum .nil pass0 (pa_cons (pv 8) (pa_cons (pv 8) (pa_cons (pv 1) pa_nil)))) (pv 5) (nomark _)))) (fun _ _ _ _ _ => (pv 8))) (nomark _)) (pss_one (ps_ret pe_bl)) pss_nil)))))) (pss_one (ps_ret pe_bl)))))), ?_⟩
    (repeat (first | refine ⟨rfl, ?_⟩ | refine ⟨_, rfl, ?_⟩ | refine ⟨_, _, rfl, rfl, ?_⟩ | refine ⟨_, _, rfl, ?_⟩ | refine ⟨slen rfl, ?_⟩ | refine ⟨⟨by decide, by decide +kernel⟩, ?_⟩ | refine ⟨(by show (0 : Int) < _; first | decide | assumption | omega), ?_⟩ | refine ⟨mul_ok (by first | exact .inr (by decide) | exact .inl (by decide)), ?_⟩))
    (intro a0 na0; generalize hGa0 : upd _ a0 _ = H0; have eH0 := exG hGa0 na0; have ha0 := atG hGa0; clear hGa0)
    (repeat (first | refine ⟨rfl, ?_⟩ | refine ⟨_, rfl, ?_⟩ | refine ⟨_, _, rfl, rfl, ?_⟩ | refine ⟨_, _, rfl, ?_⟩ | refine ⟨slen rfl, ?_⟩ | refine ⟨⟨by decide, by decide +kernel⟩, ?_⟩ | refine ⟨(by show (0 : Int) < _; first | decide | assumption | omega), ?_⟩ | refine ⟨mul_ok (by first | exact .inr (by decide) | exact .inl (by decide)), ?_⟩))
    (intro a1 na1; generalize hGa1 : upd _ a1 _ = H1; have eH1 := exG hGa1 na1; have ha1 := atG hGa1; clear hGa1)
    (repeat (first | refine ⟨rfl, ?_⟩ | refine ⟨_, rfl, ?_⟩ | refine ⟨_, _, rfl, rfl, ?_⟩ | refine ⟨_, _, rfl, ?_⟩ | refine ⟨slen rfl, ?_⟩ | refine ⟨⟨by decide, by decide +kernel⟩, ?_⟩ | refine ⟨(by show (0 : Int) < _; first | decide | assumption | omega), ?_⟩ | refine ⟨mul_ok (by first | exact .inr (by decide) | exact .inl (by decide)), ?_⟩))
    (intro a2 na2; generalize hGa2 : upd _ a2 _ = H2; have eH2 := exG hGa2 na2; have ha2 := atG hGa2; clear hGa2)
    (repeat (first | refine ⟨rfl, ?_⟩ | refine ⟨_, rfl, ?_⟩ | refine ⟨_, _, rfl, rfl, ?_⟩ | refine ⟨_, _, rfl, ?_⟩ | refine ⟨slen rfl, ?_⟩ | refine ⟨⟨by decide, by decide +kernel⟩, ?_⟩ | refine ⟨(by show (0 : Int) < _; first | decide | assumption | omega), ?_⟩ | refine ⟨mul_ok (by first | exact .inr (by decide) | exact .inl (by decide)), ?_⟩))
    (intro a3 na3; generalize hGa3 : upd _ a3 _ = H3; have eH3 := exG hGa3 na3; have ha3 := atG hGa3; clear hGa3)
    (repeat (first | refine ⟨rfl, ?_⟩ | refine ⟨_, rfl, ?_⟩ | refine ⟨_, _, rfl, rfl, ?_⟩ | refine ⟨_, _, rfl, ?_⟩ | refine ⟨slen rfl, ?_⟩ | refine ⟨⟨by decide, by decide +kernel⟩, ?_⟩ | refine ⟨(by show (0 : Int) < _; first | decide | assumption | omega), ?_⟩ | refine ⟨mul_ok (by first | exact .inr (by decide) | exact .inl (by decide)), ?_⟩))
    (intro a4 na4; generalize hGa4 : upd _ a4 _ = H4; have eH4 := exG hGa4 na4; have ha4 := atG hGa4; clear hGa4)
    (repeat (first | refine ⟨rfl, ?_⟩ | refine ⟨_, rfl, ?_⟩ | refine ⟨_, _, rfl, rfl, ?_⟩ | refine ⟨_, _, rfl, ?_⟩ | refine ⟨slen rfl, ?_⟩ | refine ⟨⟨by decide, by decide +kernel⟩, ?_⟩ | refine ⟨(by show (0 : Int) < _; first | decide | assumption | omega), ?_⟩ | refine ⟨mul_ok (by first | exact .inr (by decide) | exact .inl (by decide)), ?_⟩))
    (intro a5 na5; generalize hGa5 : upd _ a5 _ = H5; have eH5 := exG hGa5 na5; have ha5 := atG hGa5; clear hGa5)
    (repeat (first | refine ⟨rfl, ?_⟩ | refine ⟨_, rfl, ?_⟩ | refine ⟨_, _, rfl, rfl, ?_⟩ | refine ⟨_, _, rfl, ?_⟩ | refine ⟨slen rfl, ?_⟩ | refine ⟨⟨by decide, by decide +kernel⟩, ?_⟩ | refine ⟨(by show (0 : Int) < _; first | decide | assumption | omega), ?_⟩ | refine ⟨mul_ok (by first | exact .inr (by decide) | exact .inl (by decide)), ?_⟩))
    (intro a6 na6; generalize hGa6 : upd _ a6 _ = H6; have eH6 := exG hGa6 na6; have ha6 := atG hGa6; clear hGa6)
    (repeat (first | refine ⟨rfl, ?_⟩ | refine ⟨_, rfl, ?_⟩ | refine ⟨_, _, rfl, rfl, ?_⟩ | refine ⟨_, _, rfl, ?_⟩ | refine ⟨slen rfl, ?_⟩ | refine ⟨⟨by decide, by decide +kernel⟩, ?_⟩ | refine ⟨(by show (0 : Int) < _; first | decide | assumption | omega), ?_⟩ | refine ⟨mul_ok (by first | exact .inr (by decide) | exact .inl (by decide)), ?_⟩))
    (intro a7 na7; generalize hGa7 : upd _ a7 _ = H7; have eH7 := exG hGa7 na7; have ha7 := atG hGa7; clear hGa7)
    (repeat (first | refine ⟨rfl, ?_⟩ | refine ⟨_, rfl, ?_⟩ | refine ⟨_, _, rfl, rfl, ?_⟩ | refine ⟨_, _, rfl, ?_⟩ | refine ⟨slen rfl, ?_⟩ | refine ⟨⟨by decide, by decide +kernel⟩, ?_⟩ | refine ⟨(by show (0 : Int) < _; first | decide | assumption | omega), ?_⟩ | refine ⟨mul_ok (by first | exact .inr (by decide) | exact .inl (by decide)), ?_⟩))
    (intro a8 na8; generalize hGa8 : upd _ a8 _ = H8; have eH8 := exG hGa8 na8; have ha8 := atG hGa8; clear hGa8)
    (repeat (first | refine ⟨rfl, ?_⟩ | refine ⟨_, rfl, ?_⟩ | refine ⟨_, _, rfl, rfl, ?_⟩ | refine ⟨_, _, rfl, ?_⟩ | refine ⟨slen rfl, ?_⟩ | refine ⟨⟨by decide, by decide +kernel⟩, ?_⟩ | refine ⟨(by show (0 : Int) < _; first | decide | assumption | omega), ?_⟩ | refine ⟨mul_ok (by first | exact .inr (by decide) | exact .inl (by decide)), ?_⟩))
    (intro a9 na9; generalize hGa9 : upd _ a9 _ = H9; have eH9 := exG hGa9 na9; have ha9 := atG hGa9; clear hGa9)
    (repeat (first | refine ⟨rfl, ?_⟩ | refine ⟨_, rfl, ?_⟩ | refine ⟨_, _, rfl, rfl, ?_⟩ | refine ⟨_, _, rfl, ?_⟩ | refine ⟨slen rfl, ?_⟩ | refine ⟨⟨by decide, by decide +kernel⟩, ?_⟩ | refine ⟨(by show (0 : Int) < _; first | decide | assumption | omega), ?_⟩ | refine ⟨mul_ok (by first | exact .inr (by decide) | exact .inl (by decide)), ?_⟩))
    (intro al nal; generalize hGal : upd _ al _ = Ha; have eHa := exG hGal nal; have hal := atG hGal; clear hGal)
    (repeat (first | refine ⟨rfl, ?_⟩ | refine ⟨_, rfl, ?_⟩ | refine ⟨_, _, rfl, rfl, ?_⟩ | refine ⟨_, _, rfl, ?_⟩ | refine ⟨slen rfl, ?_⟩ | refine ⟨⟨by decide, by decide +kernel⟩, ?_⟩ | refine ⟨(by show (0 : Int) < _; first | decide | assumption | omega), ?_⟩ | refine ⟨mul_ok (by first | exact .inr (by decide) | exact .inl (by decide)), ?_⟩))
    have E9 : Ex H9 Ha := eHa
    have E8 : Ex H8 Ha := ext eH9 E9
    have E7 : Ex H7 Ha := ext eH8 E8
    have E6 : Ex H6 Ha := ext eH7 E7
    have E5 : Ex H5 Ha := ext eH6 E6
    have E4 : Ex H4 Ha := ext eH5 E5
    have E3 : Ex H3 Ha := ext eH4 E4
    have E2 : Ex H2 Ha := ext eH3 E3
    have E1 : Ex H1 Ha := ext eH2 E2
    have E0 : Ex H0 Ha := ext eH1 E1
    have EH : Ex H Ha := ext eH0 E0
    have pick : ∀ r : Int, 0 ≤ r → r < 10 → ∃ l ns, atI [V.ref a0, V.ref a1, V.ref a2, V.ref a3, V.ref a4, V.ref a5, V.ref a6, V.ref a7, V.ref a8, V.ref a9] r = some (.ref l) ∧ Ha l = some (.lst (ns.map V.int)) ∧ H l = none ∧ Sml ns := by
      intro r r0 r1
      have : r = 0 ∨ r = 1 ∨ r = 2 ∨ r = 3 ∨ r = 4 ∨ r = 5 ∨ r = 6 ∨ r = 7 ∨ r = 8 ∨ r = 9 := by omega
      rcases this with rfl | rfl | rfl | rfl | rfl | rfl | rfl | rfl | rfl | rfl
      · exact ⟨a0, [2, 4], rfl, E0 _ _ ha0, na0, sml (by decide) (by decide) (by decide)⟩
      · exact ⟨a1, [6], rfl, E1 _ _ ha1, Evl.fresh_back eH0 (na1), sml (by decide) (by decide) (by decide)⟩
      · exact ⟨a2, [3, 3], rfl, E2 _ _ ha2, Evl.fresh_back eH0 (Evl.fresh_back eH1 (na2)), sml (by decide) (by decide) (by decide)⟩
      · exact ⟨a3, [8], rfl, E3 _ _ ha3, Evl.fresh_back eH0 (Evl.fresh_back eH1 (Evl.fresh_back eH2 (na3))), sml (by decide) (by decide) (by decide)⟩
      · exact ⟨a4, [2, 2, 3], rfl, E4 _ _ ha4, Evl.fresh_back eH0 (Evl.fresh_back eH1 (Evl.fresh_back eH2 (Evl.fresh_back eH3 (na4)))), sml (by decide) (by decide) (by decide)⟩
      · exact ⟨a5, [9], rfl, E5 _ _ ha5, Evl.fresh_back eH0 (Evl.fresh_back eH1 (Evl.fresh_back eH2 (Evl.fresh_back eH3 (Evl.fresh_back eH4 (na5))))), sml (by decide) (by decide) (by decide)⟩
      · exact ⟨a6, [1, 4], rfl, E6 _ _ ha6, Evl.fresh_back eH0 (Evl.fresh_back eH1 (Evl.fresh_back eH2 (Evl.fresh_back eH3 (Evl.fresh_back eH4 (Evl.fresh_back eH5 (na6)))))), sml (by decide) (by decide) (by decide)⟩
      · exact ⟨a7, [5], rfl, E7 _ _ ha7, Evl.fresh_back eH0 (Evl.fresh_back eH1 (Evl.fresh_back eH2 (Evl.fresh_back eH3 (Evl.fresh_back eH4 (Evl.fresh_back eH5 (Evl.fresh_back eH6 (na7))))))), sml (by decide) (by decide) (by decide)⟩
      · exact ⟨a8, [2, 2, 2, 2], rfl, E8 _ _ ha8, Evl.fresh_back eH0 (Evl.fresh_back eH1 (Evl.fresh_back eH2 (Evl.fresh_back eH3 (Evl.fresh_back eH4 (Evl.fresh_back eH5 (Evl.fresh_back eH6 (Evl.fresh_back eH7 (na8)))))))), sml (by decide) (by decide) (by decide)⟩
      · exact ⟨a9, [12], rfl, E9 _ _ ha9, Evl.fresh_back eH0 (Evl.fresh_back eH1 (Evl.fresh_back eH2 (Evl.fresh_back eH3 (Evl.fresh_back eH4 (Evl.fresh_back eH5 (Evl.fresh_back eH6 (Evl.fresh_back eH7 (Evl.fresh_back eH8 (na9))))))))), sml (by decide) (by decide) (by decide)⟩
    refine ⟨hs.mono EH, by decide, by decide +kernel, fun r Hb r0 r1 xb srcb => ?_⟩
    obtain ⟨l, ns, gl, hl, nl0, ok, sm⟩ := pick r r0 r1
    have nls : l ≠ s := hs.ne nl0
    have nals : al ≠ s := (hs.mono (ext eH0 (ext eH1 (ext eH2 (ext eH3 (ext eH4 (ext eH5 (ext eH6 (ext eH7 (ext eH8 eH9)))))))))).ne nal
    refine ⟨al, _, _, _, rfl, rfl, SqL.of (xb _ _ nals hal), gl, ?_⟩
    have hlb := xb _ _ nls hl
    have xbH : XB s H Hb := (XB.of EH).trans xb
    have hB : SzB ns := fun n hn => Int.le_trans (sm n hn).2 (by decide)
    have l4 := ok.le
    -- the board
    refine ⟨_, rfl, fun bd dx nbd ndx nex => ?_⟩
    have exB : Ex Hb (upd (upd Hb dx (.own bd)) bd (.ins T.C_Table dx [])) := fun c o z => by
      rw [upd_ne (ne_of_none z nbd), upd_ne (ne_of_none z ndx)]
      exact z
    refine ⟨bd, dx, (false, l), ns, rfl, upd_same, exB _ _ hlb, ok, fun Hc k3 ht3 => ⟨rfl, ?_⟩⟩
    have exc : Ex Hb Hc := fun c o z => k3 c o (ne_of_none z nbd) (exB c o z)
    have tab : TabAt T.C_Table Hc bd ns := by
      obtain ⟨t, g1, g2⟩ := ht3
      exact ⟨dx, t, g1, g2⟩
    clear ht3 k3
    have hlc := exc _ _ hlb
    refine ⟨_, rfl, l, ns, rfl, hlc, l4, sm, fun ev Hd ed nev rows => ⟨_, _, rfl, ?_⟩⟩
    have hld := ed _ _ hlc
    have tabd := tab.mono ed
    -- zero
    (repeat (first | refine ⟨rfl, ?_⟩ | refine ⟨_, rfl, ?_⟩ | refine ⟨_, _, rfl, rfl, ?_⟩ | refine ⟨_, _, rfl, ?_⟩ | refine ⟨slen rfl, ?_⟩ | refine ⟨⟨by decide, by decide +kernel⟩, ?_⟩ | refine ⟨(by show (0 : Int) < _; first | decide | assumption | omega), ?_⟩ | refine ⟨mul_ok (by first | exact .inr (by decide) | exact .inl (by decide)), ?_⟩))
    (intro z1 nz1; generalize hGz1 : upd _ z1 _ = He; have eHe := exG hGz1 nz1; have hz1 := atG hGz1; clear hGz1)
    refine ⟨_, rfl, l, _, rfl, .inl (SqL.of (eHe _ _ hld)), ?_⟩
    have lpos : 1 ≤ ns.length := List.length_pos_iff.mpr ok.pos
    refine rep_ints hz1 (by rw [List.length_map]; omega) (by rw [List.length_map]; omega) fun z Hf ef hz => ?_
    rw [List.length_map, Int.toNat_natCast] at hz
    have E0f : Ex Hd Hf := ext eHe ef
    obtain ⟨xs, rx1, rx2⟩ := rows
    refine ⟨_, rfl, ev, rfl, ⟨_, SqL.of (E0f _ _ rx1)⟩, ?_⟩
    refine for_it (walk_list (xs := xs)) (fun i σ H1 => (∃ y5 y6 y7 y8 : Option V, σ = [some (.ref s), some (.ref l), some (.ref bd), some (.ref ev), some (.ref z), y5, y6, y7, y8]) ∧ Ex Hf H1) ⟨⟨_, _, _, _, rfl⟩, exr⟩ (fun i σ H1 _ p => SqL.of (p.2 _ _ (E0f _ _ rx1))) ?_ ?_
    · rintro i x σ _ H1 hi ⟨⟨y5, y6, y7, y8, rfl⟩, e1⟩ ⟨rfl, hx⟩
      obtain ⟨ps, o, hps, rfl, ho⟩ := rx2.get hx
      have sk := all_seat _ rfl ps (List.mem_of_getElem? hps)
      have lp := sk.len
      have E01 : Ex Hd H1 := ext E0f e1
      have ho1 := E01 _ _ ho
      have hl1 := E01 _ _ hld
      have hz1' := e1 _ _ hz
      have lz : (List.replicate ns.length (0 : Int)).length = ns.length := by simp
      (repeat (first | refine ⟨rfl, ?_⟩ | refine ⟨_, rfl, ?_⟩ | refine ⟨_, _, rfl, rfl, ?_⟩ | refine ⟨_, _, rfl, ?_⟩ | refine ⟨slen rfl, ?_⟩ | refine ⟨⟨by decide, by decide +kernel⟩, ?_⟩ | refine ⟨(by show (0 : Int) < _; first | decide | assumption | omega), ?_⟩ | refine ⟨mul_ok (by first | exact .inr (by decide) | exact .inl (by decide)), ?_⟩))
      refine ⟨fun m σ H2 => ∃ (c : Nat) (tt : Addr), σ = [some (.ref s), some (.ref l), some (.ref bd), some (.ref ev), some (.ref z), some (.ref o), some (.ref tt), some (.int c), y8] ∧ Ex H1 H2 ∧ H2 tt = some (.tup ((shiftL ns (List.replicate ns.length 0) ps c).map V.int)) ∧ 1 ≤ c ∧ c ≤ ordF (ps.zip ns) ∧ m = ordF (ps.zip ns) - c, ⟨_, 1, o, rfl, exr, ?_, Nat.le_refl _, ?_, rfl⟩, ?_⟩
      · rw [show ((1 : Nat) : Int) = 1 from rfl, shift_one sk]
        exact ho1
      · exact (ord_ok (fun z hz => by
          have := (List.of_mem_zip (show (z.1, z.2) ∈ ps.zip ns from hz)).2
          exact ⟨ok.one _ this, hB _ this⟩) (by rw [zip_len lp rfl]; omega)).1
      rintro m σ H2 ⟨c, tt, rfl, e2, ht, c1, c2, rfl⟩
      refine ⟨_, rfl, _, rfl, iT _, iT _, dp_ints ht, dp_ints (e2 _ _ hz1'), (sh_ints _).ok, (sh_ints _).ok, _, rfl, ?_⟩
      rw [eqv_ints]
      by_cases hc : shiftL ns (List.replicate ns.length 0) ps c = List.replicate ns.length 0
      case neg =>
        refine itt (by simp [hc]) ?_
        refine ⟨_, fun _ _ h => h, ?_⟩
        refine ⟨_, rfl, _, rfl, _, rfl, tt, o, l, ns, _, ps, rfl, e2 _ _ hl1, ok, ht, e2 _ _ ho1, shift_len lz lp, lp, fun H3 q e3 nq hq => ?_⟩
        (repeat (first | refine ⟨rfl, ?_⟩ | refine ⟨_, rfl, ?_⟩ | refine ⟨_, _, rfl, rfl, ?_⟩ | refine ⟨_, _, rfl, ?_⟩ | refine ⟨slen rfl, ?_⟩ | refine ⟨⟨by decide, by decide +kernel⟩, ?_⟩ | refine ⟨(by show (0 : Int) < _; first | decide | assumption | omega), ?_⟩ | refine ⟨mul_ok (by first | exact .inr (by decide) | exact .inl (by decide)), ?_⟩))
        have ne : c ≠ ordF (ps.zip ns) := fun z => hc ((copies_zero ok sk c).mpr (by rw [z]; exact Nat.dvd_refl _))
        refine ⟨_, ?_, c + 1, q, rfl, ext e2 e3, ?_, by omega, by omega, rfl⟩
        · omega
        · rw [shift_add lz lp] at hq
          rw [hq]
          rfl
      refine itf (by simp [hc]) ?_
      have hco : c = ordF (ps.zip ns) := Nat.le_antisymm c2 (Nat.le_of_dvd (by omega) ((copies_zero ok sk c).mp hc))
      have E12 : Ex Hd H2 := ext E01 e2
      obtain ⟨bdx, t, g1, g2⟩ := tabd.mono E12
      have hld2 := E12 _ _ hld
      have ho2 := E12 _ _ ho
      refine ⟨_, rfl, bd, bdx, _, rfl, g1, rfl, _, rfl, bd, o, ns, ps, rfl, tabd.mono E12, ok, hB, ho2, sk, fun H3 e3 => ?_⟩
      refine ⟨_, rfl, rfl, _, rfl, itf (by rw [hco]; simp) ?_⟩
      refine ⟨_, rfl, bd, bdx, _, rfl, e3 _ _ g1, rfl, _, rfl, bd, o, ns, ps, rfl, (tabd.mono E12).mono e3, ok, hB, e3 _ _ ho2, sk, fun hv H4 e4 nhv rowsH => ?_⟩
      have E4 : Ex Hd H4 := ext E12 (ext e3 e4)
      have rx1d := E4 _ _ rx1
      refine ⟨_, rfl, ev, rfl, ⟨_, SqL.of rx1d⟩, fun D hD => ?_⟩
      have few := all_few sm l4
      have lx := rx2.len
      refine lc_filt (walk_list (xs := xs)) (xs.zip (allL ns)) (fun z => decide (shiftL ns z.2 z.2 1 = ps)) (fun z => z.1) (zip_len rfl lx.symm) (by rw [lx]; omega) hD (fun H e => SqL.of (e _ _ rx1d)) ?_ ?_
      · rintro j x ⟨v, hs⟩ _ H5 R S ha e5 ⟨rfl, hx⟩ kR kS
        obtain ⟨hv1, hv2⟩ := zip_at2 ha
        obtain rfl : x = v := Option.some.inj (hx.symm.trans hv1)
        obtain ⟨hs2, q, hq1, rfl, hq2⟩ := rx2.get hx
        obtain rfl : hs2 = hs := Option.some.inj (hq1.symm.trans hv2)
        have skh := all_seat _ rfl hs2 (List.mem_of_getElem? hv2)
        have hq5 := e5 _ _ (E4 _ _ hq2)
        refine ⟨rfl, _, rfl, _, rfl, _, rfl, q, q, l, ns, hs2, hs2, rfl, e5 _ _ (E4 _ _ hld), ok, hq5, hq5, skh.len, skh.len, fun H6 q6 e6 nq6 hq6 => ?_⟩
        refine ⟨_, rfl, iT _, iT _, dp_ints hq6, dp_ints (e6 _ _ (e5 _ _ (e4 _ _ (e3 _ _ ho2)))), (sh_ints _).ok, (sh_ints _).ok, _, rfl, ?_⟩
        rw [eqv_ints]
        refine ite2 (fun hc => ?_) (fun hc => ?_)
        · exact ⟨_, rfl, kR _ _ e6 hc rfl⟩
        · exact kS _ e6 (by simpa using hc)
      · intro H5 e5 hD5
        have rows5 : RowsR H5 xs (allL ns) := rx2.mono (ext E4 e5)
        have rr := rows5.filt fun hs => decide (shiftL ns hs hs 1 = ps)
        rw [all_half _ rfl sk] at rr
        have d5 : Dp K H5 (.ref D) (.list ((halvesF (ps.zip ns)).map iT)) := .lst (SqL.of hD5) rr.dp
        have shl : Sh 60 (.list ((halvesF (ps.zip ns)).map iT)) := (sh_list (n := 1) fun d hd => by
          obtain ⟨r, _, rfl⟩ := List.mem_map.mp hd
          exact sh_ints r).up (by decide)
        refine ⟨_, _, (rowsH.mono e5).dp, d5, shl.ok, shl.ok, _, rfl, itf (eqv_same shl) ?_⟩
        exact ⟨⟨_, _, _, _, rfl⟩, ext e1 (ext e2 (ext e3 (ext e4 e5)))⟩
    · rintro σ H1 ⟨⟨y5, y6, y7, y8, rfl⟩, e1⟩
      have E2 : Ex Hb H1 := ext exc (ext ed (ext E0f e1))
      exact k _ (xbH.trans (XB.of E2)) (srcb.mono E2)
end

theorem kb_Table_halves_01 {K : PySem.W.Frag} {mg : Str → Option Value} (T : TX K mg) : KBn K T.fd_Table_halves ["self", "seat"] 1 ["seat"] (fun us ws => pick [0, 1] (us ++ ws)) (fun vs zs => pick [0, 1] (vs ++ zs)) :=
  kbn_of T.F_Table_halves 1 ["seat"] [0, 1] fun _ _ _ _ _ _ us ws h1 h2 => match us, ws, h1, h2 with | [_], [_], _, _ => rfl
theorem kb_Table_order_01 {K : PySem.W.Frag} {mg : Str → Option Value} (T : TX K mg) : KBn K T.fd_Table_order ["self", "seat"] 1 ["seat"] (fun us ws => pick [0, 1] (us ++ ws)) (fun vs zs => pick [0, 1] (vs ++ zs)) :=
  kbn_of T.F_Table_order 1 ["seat"] [0, 1] fun _ _ _ _ _ _ us ws h1 h2 => match us, ws, h1, h2 with | [_], [_], _, _ => rfl
theorem mid_seat : ∀ {ns : List Int}, (∀ n ∈ ns, 1 ≤ n) → SeatOk ns (ns.map fun n => n / 2)
  | [], _ => True.intro
  | n :: ns, h => by
    have := h n List.mem_cons_self
    exact ⟨⟨by show 0 ≤ n / 2; omega, by show n / 2 < n; omega⟩, mid_seat fun m hm => h m (List.mem_cons_of_mem _ hm)⟩
section
variable {P : Program} {w : World} {K : PySem.W.Frag} {mg : Str → Option Value} {base : Heap}
def sp_law_check : Sp := fun vs H Q _ => ∃ (s : Addr), vs = [.ref s] ∧ Src H s ∧ ∀ H2, XB s H H2 → Src H2 s → Q (.bl true) H2
theorem ok_law_check (T : TX K mg) : FnOk P w K mg base CX0 6 T.f_law_check T.fd_law_check ["_law_source_here"] sp_law_check := by
  refine T.F_law_check.ok sc_law_check (fun vs H Q E h => ?_) (fun cdv A outer s H vs Q E hr h => ?_)
  · obtain ⟨s, rfl, _⟩ := h
    rfl
  · obtain ⟨s, rfl, hs, k⟩ := h
    refine ⟨_, (pss_cons (ps_set (i := 1) sc_law_check.nd rfl (Or.inl rfl) (pe_call (ok_law_rings T) (hr.mono (by decide)) rfl T.m_law_rings T.F_law_rings.kp T.b_law_rings .nil pass0 (pa_cons (pv 0) pa_nil))) (pss_cons (ps_set (i := 2) sc_law_check.nd rfl (Or.inl rfl) (pe_make T.M_Table (ok_Table_init T) (hr.mono (by decide)) rfl T.m_Table T.b_Table_init .nil pass0 (pa_cons (pv 1) pa_nil))) (pss_cons (ps_for PassesOwn.never rfl (pi_range1 rfl T.z_range (pa_cons pe_int pa_nil)) (pg_name (i := 3) sc_law_check.nd rfl (Or.inl rfl)) (pss_cons (ps_set (i := 4) sc_law_check.nd rfl (Or.inl rfl) (pe_call (ok_law_seat T) (hr.mono (by decide)) rfl T.m_law_seat T.F_law_seat.kp T.b_law_seat .nil pass0 (pa_cons (pv 0) (pa_cons (pv 1) pa_nil)))) (pss_cons (ps_par (i := 5) (j := 6) rfl sc_law_check.nd rfl rfl (by decide) rfl rfl (pa_cons (pe_callTy call_tuple_of (by rfl) T.z_tuple (by decide +kernel) (pa_cons (pe_lc (own := [("_law_place", 8)]) (g := (gName 8)) rfl sc_law_check.nd (pi_list (pv 1)) (blkOk_by (N := N_law_check) (sc := defScope s_law_check) (by decide +kernel)) (fun _ _ _ _ _ => (pg_name (i := 8) sc_law_check.nd rfl (Or.inl rfl))) (fun _ _ _ _ _ => pts_nil) (fun _ _ _ _ _ => (pe_op op_fdivW (pv 8) pe_int))) pa_nil)) (pa_cons (pe_call (ok_law_sum T) (hr.mono (by decide)) rfl T.m_law_sum T.F_law_sum.kp T.b_law_sum .nil pass0 (pa_cons (pv 4) (pa_cons (pv 4) (pa_cons (pv 1) pa_nil)))) pa_nil)) (by rfl)) (pss_cons (ps_set (i := 4) sc_law_check.nd rfl (Or.inl rfl) (pe_ix ix_list (pe_lst (pa_cons (pv 4) (pa_cons (pv 5) (pa_cons (pe_op (r := rRepA K) op_repA (pe_tup (pa_cons pe_int pa_nil)) (pe_callB call_len_seq (by rfl) T.z_len (by decide +kernel) (pa_cons (pv 1) pa_nil))) (pa_cons (pv 6) pa_nil))))) (pv 3) (fun _ _ => rfl))) (pss_cons (ps_set (i := 7) sc_law_check.nd rfl (Or.inl rfl) (pe_meth (pv 2) T.cl_Table T.me_Table_halves (ok_Table_halves T) hr T.b_Table_halves .nil pass0 (pa_cons (pv 4) pa_nil))) (pss_cons (ps_if (PW.pt (pw_or (pt_cmpR op_ne (pe_meth (pv 2) T.cl_Table T.me_Table_order (ok_Table_order T) hr T.b_Table_order .nil pass0 (pa_cons (pv 4) pa_nil)) (pe_call (ok_law_period T) (hr.mono (by decide)) rfl T.m_law_period T.F_law_period.kp T.b_law_period .nil pass0 (pa_cons (pv 4) (pa_cons (pv 1) pa_nil))) (nomark _)) (pw_or1 (pt_cmpR (r := rNeD K) (op_neD hr.units) (pv 7) (pe_call (ok_law_halves T) (hr.mono (by decide)) rfl T.m_law_halves T.F_law_halves.kp T.b_law_halves .nil pass0 (pa_cons (pv 4) (pa_cons (pv 1) pa_nil))) (nomark _))))) (pss_one (ps_ret pe_bl)) pss_nil) (pss_cons (ps_expr (pe_bm PySem.F.plainAttrs_list PySem.F.slot_list_append PySem.F.type_list_append mt_append (pv 7) (pa_cons pe_non pa_nil))) (pss_cons (ps_if (pt_cmpR (r := rNeD K) (op_neD hr.units) (pe_methKw (pv 2) T.cl_Table T.me_Table_halves (ok_Table_halves T) hr (kb_Table_halves_01 T) pass0 (pk_cons (pv 4) pk_nil)) (pe_call (ok_law_halves T) (hr.mono (by decide)) rfl T.m_law_halves T.F_law_halves.kp T.b_law_halves .nil pass0 (pa_cons (pv 4) (pa_cons (pv 1) pa_nil))) (nomark _)) (pss_one (ps_ret pe_bl)) pss_nil) (pss_one (ps_if (pt_cmpR op_ne (pe_methKw (pv 2) T.cl_Table T.me_Table_order (ok_Table_order T) hr (kb_Table_order_01 T) pass0 (pk_cons (pv 4) pk_nil)) (pe_call (ok_law_period T) (hr.mono (by decide)) rfl T.m_law_period T.F_law_period.kp T.b_law_period .nil pass0 (pa_cons (pv 4) (pa_cons (pv 1) pa_nil))) (nomark _)) (pss_one (ps_ret pe_bl)) pss_nil)))))))))) (pss_one (ps_ret pe_bl))))), ?_⟩
    refine ⟨_, rfl, s, rfl, hs, fun l ns H1 nl0 hl1 ok hB xb1 src1 => ?_⟩
    have nl : l ≠ s := hs.ne nl0
    have hB2 : SzB ns := fun n hn => Int.le_trans (hB n hn) (by decide)
    have l4 := ok.le
    have lpos : 1 ≤ ns.length := List.length_pos_iff.mpr ok.pos
    refine ⟨_, rfl, fun bd dx nbd ndx nex => ?_⟩
    have exB : Ex H1 (upd (upd H1 dx (.own bd)) bd (.ins T.C_Table dx [])) := fun c o z => by
      rw [upd_ne (ne_of_none z nbd), upd_ne (ne_of_none z ndx)]
      exact z
    refine ⟨bd, dx, (false, l), ns, rfl, upd_same, exB _ _ hl1, ok, fun H3 k3 ht3 => ⟨rfl, ?_⟩⟩
    have ex3 : Ex H1 H3 := fun c o z => k3 c o (ne_of_none z nbd) (exB c o z)
    have tab3 : TabAt T.C_Table H3 bd ns := by
      obtain ⟨t, g1, g2⟩ := ht3
      exact ⟨dx, t, g1, g2⟩
    clear ht3 k3
    refine ⟨4, rfl, by decide, by decide, ?_⟩
    refine for_it walk_range (fun i σ H4 => (∃ y3 y4 y5 y6 y7 y8 : Option V, σ = [some (.ref s), some (.ref l), some (.ref bd), y3, y4, y5, y6, y7, y8]) ∧ H4 l = some (.lst (ns.map V.int)) ∧ TabAt T.C_Table H4 bd ns ∧ Src H4 s ∧ XB s H H4) ⟨⟨_, _, _, _, _, _, rfl⟩, ex3 _ _ hl1, tab3, src1.mono ex3, xb1.trans (XB.of ex3)⟩ (fun _ _ _ _ _ => True.intro) ?_ ?_
    · rintro i x σ H4 H5 hi ⟨⟨y3, y4, y5, y6, y7, y8, rfl⟩, hl4, tab4, src4, xb4⟩ ⟨rfl, hx⟩
      obtain rfl : x = .int (i : Int) := hx.trans (congrArg V.int (Int.zero_add _))
      refine ⟨_, rfl, _, rfl, s, l, ns, rfl, src4, hl4, nl, ok, hB, fun st ps H5 nst hst sk xb5 src5 => ?_⟩
      have hl5 := xb5 _ _ nl hl4
      have tab5 := tab4.xb src4 xb5
      (repeat (first | refine ⟨rfl, ?_⟩ | refine ⟨_, rfl, ?_⟩ | refine ⟨_, _, rfl, rfl, ?_⟩ | refine ⟨_, _, rfl, ?_⟩ | refine ⟨slen rfl, ?_⟩ | refine ⟨⟨by decide, by decide +kernel⟩, ?_⟩ | refine ⟨(by show (0 : Int) < _; first | decide | assumption | omega), ?_⟩ | refine ⟨mul_ok (by first | exact .inr (by decide) | exact .inl (by decide)), ?_⟩))
      refine ⟨⟨_, SqL.of hl5⟩, fun D hD => ?_⟩
      refine lc_vals walk_list ((ns.map fun n => n / 2).map V.int) (by simp) (by rw [List.length_map]; omega) hD (fun H3 e => SqL.of (e _ _ hl5)) ?_ gmono_name ?_
      · rintro j x _ H6 R hj e6 ⟨rfl, hx⟩ kk
        obtain ⟨n, hn, rfl⟩ := map_get hx
        (repeat (first | refine ⟨rfl, ?_⟩ | refine ⟨_, rfl, ?_⟩ | refine ⟨_, _, rfl, rfl, ?_⟩ | refine ⟨_, _, rfl, ?_⟩ | refine ⟨slen rfl, ?_⟩ | refine ⟨⟨by decide, by decide +kernel⟩, ?_⟩ | refine ⟨(by show (0 : Int) < _; first | decide | assumption | omega), ?_⟩ | refine ⟨mul_ok (by first | exact .inr (by decide) | exact .inl (by decide)), ?_⟩))
        exact kk _ _ exr (by simp [hn])
      intro H6 e6 hD6
      refine ⟨D, _, rfl, .inl ⟨SqL.of hD6, ?_⟩⟩
      (intro md nmd; generalize hGmd : upd _ md _ = H7; have eH7 := exG hGmd nmd; have hmd := atG hGmd; clear hGmd)
      have E7 : Ex H5 H7 := ext e6 eH7
      refine ⟨_, rfl, _, rfl, _, rfl, st, st, l, ns, ps, ps, rfl, E7 _ _ hl5, ok, E7 _ _ hst, E7 _ _ hst, sk.len, sk.len, fun H8 tw e8 ntw htw => ?_⟩
      (repeat (first | refine ⟨rfl, ?_⟩ | refine ⟨_, rfl, ?_⟩ | refine ⟨_, _, rfl, rfl, ?_⟩ | refine ⟨_, _, rfl, ?_⟩ | refine ⟨slen rfl, ?_⟩ | refine ⟨⟨by decide, by decide +kernel⟩, ?_⟩ | refine ⟨(by show (0 : Int) < _; first | decide | assumption | omega), ?_⟩ | refine ⟨mul_ok (by first | exact .inr (by decide) | exact .inl (by decide)), ?_⟩))
      (intro z1 nz1; generalize hGz1 : upd _ z1 _ = H9; have eH9 := exG hGz1 nz1; have hz1 := atG hGz1; clear hGz1)
      have E9 : Ex H5 H9 := ext E7 (ext e8 eH9)
      refine ⟨_, rfl, l, _, rfl, .inl (SqL.of (E9 _ _ hl5)), ?_⟩
      refine rep_ints hz1 (by rw [List.length_map]; omega) (by rw [List.length_map]; omega) fun z Ha ea hz => ?_
      rw [List.length_map, Int.toNat_natCast] at hz
      (repeat (first | refine ⟨rfl, ?_⟩ | refine ⟨_, rfl, ?_⟩ | refine ⟨_, _, rfl, rfl, ?_⟩ | refine ⟨_, _, rfl, ?_⟩ | refine ⟨slen rfl, ?_⟩ | refine ⟨⟨by decide, by decide +kernel⟩, ?_⟩ | refine ⟨(by show (0 : Int) < _; first | decide | assumption | omega), ?_⟩ | refine ⟨mul_ok (by first | exact .inr (by decide) | exact .inl (by decide)), ?_⟩))
      (intro pl npl; generalize hGpl : upd _ pl _ = Hb; have eHb := exG hGpl npl; have hpl := atG hGpl; clear hGpl)
      (repeat (first | refine ⟨rfl, ?_⟩ | refine ⟨_, rfl, ?_⟩ | refine ⟨_, _, rfl, rfl, ?_⟩ | refine ⟨_, _, rfl, ?_⟩ | refine ⟨slen rfl, ?_⟩ | refine ⟨⟨by decide, by decide +kernel⟩, ?_⟩ | refine ⟨(by show (0 : Int) < _; first | decide | assumption | omega), ?_⟩ | refine ⟨mul_ok (by first | exact .inr (by decide) | exact .inl (by decide)), ?_⟩))
      have pick : ∃ o qs, atI [V.ref st, V.ref md, V.ref z, V.ref tw] (i : Int) = some (.ref o) ∧ Hb o = some (.tup (qs.map V.int)) ∧ SeatOk ns qs := by
        have : i = 0 ∨ i = 1 ∨ i = 2 ∨ i = 3 := by
          have : i < 4 := hi
          omega
        rcases this with rfl | rfl | rfl | rfl
        · exact ⟨st, ps, rfl, eHb _ _ (ea _ _ (E9 _ _ hst)), sk⟩
        · exact ⟨md, ns.map fun n => n / 2, rfl, eHb _ _ (ea _ _ (eH9 _ _ (e8 _ _ hmd))), mid_seat ok.one⟩
        · exact ⟨z, List.replicate ns.length 0, rfl, eHb _ _ hz, zero_seat ok.one⟩
        · exact ⟨tw, _, rfl, eHb _ _ (ea _ _ (eH9 _ _ htw)), shift_seat ok.one sk.len sk.len⟩
      obtain ⟨o, qs, go, ho, skq⟩ := pick
      have Eb : Ex H5 Hb := ext E9 (ext ea eHb)
      refine ⟨pl, _, _, _, rfl, rfl, SqL.of hpl, go, ?_⟩
      have tabb := tab5.mono Eb
      obtain ⟨bdx, t, g1, g2⟩ := id tabb
      have hlb := Eb _ _ hl5
      refine ⟨_, rfl, bd, bdx, _, rfl, g1, rfl, _, rfl, bd, o, ns, qs, rfl, tabb, ok, hB2, ho, skq, fun f1 Hc ec nf1 rows1 => ?_⟩
      refine ⟨_, rfl, bd, bdx, _, rfl, ec _ _ g1, rfl, _, rfl, bd, o, ns, qs, rfl, tabb.mono ec, ok, hB2, ec _ _ ho, skq, fun Hd ed => ?_⟩
      have Ed : Ex Hb Hd := ext ec ed
      refine ⟨_, rfl, _, rfl, o, l, ns, qs, rfl, Ed _ _ hlb, ok, hB2, Ed _ _ ho, skq, fun He ee => ?_⟩
      have Ee : Ex Hb He := ext Ed ee
      refine ⟨rfl, _, rfl, itf (by simp) ?_⟩
      refine ⟨_, rfl, _, rfl, _, rfl, o, l, ns, qs, rfl, Ee _ _ hlb, ok, hB2, Ee _ _ ho, skq, fun f2 Hf ef nf2 rows2 => ?_⟩
      have Ef : Ex Hb Hf := ext Ee ef
      have shl : Sh 60 (.list ((halvesF (qs.zip ns)).map iT)) := (sh_list (n := 1) fun d hd => by
        obtain ⟨r, _, rfl⟩ := List.mem_map.mp hd
        exact sh_ints r).up (by decide)
      refine ⟨_, _, (rows1.mono (ext ed (ext ee ef))).dp, rows2.dp, shl.ok, shl.ok, _, rfl, itf (eqv_same shl) ?_⟩
      obtain ⟨xs1, hx1, rx1⟩ := rows1.mono (ext ed (ext ee ef))
      have lx := rx1.len
      have few := halves_few (zs := qs.zip ns) (by rw [zip_len skq.len rfl]; omega)
      refine ⟨_, rfl, .inl ⟨rfl, _, SqL.of hx1⟩, f1, _, _, rfl, rfl, hx1, by rw [lx]; exact Nat.lt_of_le_of_lt few (by decide), ?_⟩
      generalize hGg : upd _ f1 _ = Hg
      have Eg : Ex Hb Hg := fun c o z => by
        rw [← hGg, upd_ne (ne_of_none z nf1)]
        exact Ef c o z
      clear hGg
      refine ⟨_, rfl, bd, bdx, _, rfl, Eg _ _ g1, rfl, _, rfl, rfl, bd, o, ns, qs, rfl, tabb.mono Eg, ok, hB2, Eg _ _ ho, skq, fun f3 Hh eh nf3 rows3 => ?_⟩
      have Eh : Ex Hb Hh := ext Eg eh
      refine ⟨_, rfl, _, rfl, o, l, ns, qs, rfl, Eh _ _ hlb, ok, hB2, Eh _ _ ho, skq, fun f4 Hi ei nf4 rows4 => ?_⟩
      refine ⟨_, _, (rows3.mono ei).dp, rows4.dp, shl.ok, shl.ok, _, rfl, itf (eqv_same shl) ?_⟩
      have Ei : Ex Hb Hi := ext Eh ei
      refine ⟨_, rfl, bd, bdx, _, rfl, Ei _ _ g1, rfl, _, rfl, rfl, bd, o, ns, qs, rfl, tabb.mono Ei, ok, hB2, Ei _ _ ho, skq, fun Hj ej => ?_⟩
      have Ej : Ex Hb Hj := ext Ei ej
      refine ⟨_, rfl, _, rfl, o, l, ns, qs, rfl, Ej _ _ hlb, ok, hB2, Ej _ _ ho, skq, fun Hk ek => ?_⟩
      refine ⟨rfl, _, rfl, itf (by simp) ?_⟩
      have Ek : Ex H5 Hk := ext Eb (ext Ej ek)
      exact ⟨⟨_, _, _, _, _, _, rfl⟩, Ek _ _ hl5, tab5.mono Ek, src5.mono Ek, (xb4.trans xb5).trans (XB.of Ek)⟩
    · rintro σ H4 ⟨⟨y3, y4, y5, y6, y7, y8, rfl⟩, hl4, tab4, src4, xb4⟩
      exact k _ xb4 src4
end

section
variable {P : Program} {w : World} {K : PySem.W.Frag} {mg : Str → Option Value} {base : Heap}
/-- a cut list of ints is one -/
theorem cut_ints (ns : List Int) (lo hi : Option Int) : ∃ ms : List Int, cutV (ns.map V.int ++ [V.int 0]) lo hi = ms.map V.int := by
  refine ⟨((ns ++ [0]).drop (HT.sIx (ns.map V.int ++ [V.int 0]).length 0 lo)).take (HT.sIx (ns.map V.int ++ [V.int 0]).length (ns.map V.int ++ [V.int 0]).length hi - HT.sIx (ns.map V.int ++ [V.int 0]).length 0 lo), ?_⟩
  unfold cutV
  rw [List.map_take, List.map_drop, List.map_append]
  rfl
end

section
variable {P : Program} {w : World} {K : PySem.W.Frag} {mg : Str → Option Value} {base : Heap}
def sp_law (K : PySem.W.Frag) : Sp := fun vs H Q _ => ∃ (a : Addr) (ns : List Int), vs = [.ref a] ∧ SqL K H a (ns.map V.int) ∧ ns.length ≤ 63 ∧ ∀ H2, Q (.bl true) H2
theorem ok_law (T : TX K mg) : FnOk P w K mg base CX0 7 T.f_law T.fd_law ["_law_script"] (sp_law K) := by
  refine T.F_law.ok sc_law (fun vs H Q E h => ?_) (fun cdv A outer s H vs Q E hr h => ?_)
  · obtain ⟨a, ns, rfl, _⟩ := h
    rfl
  · obtain ⟨a, ns, rfl, hS, hlen, k⟩ := h
    refine ⟨_, (pss_cons (ps_for PassesOwn.never rfl (pi_list (pe_slice sl_list (pe_op (r := rCatR K) op_catR (pv 0) (pe_lst (pa_cons pe_int pa_nil))) po_none (po_some pe_int))) (pg_name (i := 1) sc_law.nd rfl (Or.inl rfl)) (pss_cons (ps_set (i := 2) sc_law.nd rfl (Or.inl rfl) (pe_call (ok_law_source T) (hr.mono (by decide)) rfl T.m_law_source T.F_law_source.kp T.b_law_source .nil pass0 (pa_cons (pv 1) pa_nil))) (pss_one (ps_if (PW.pt (pw_or (pt_not (pt_val (pe_call (ok_law_check T) hr rfl T.m_law_check T.F_law_check.kp T.b_law_check .nil pass0 (pa_cons (pv 2) pa_nil)))) (pw_or1 (pt_not (pt_val (pe_call (ok_law_check_small T) hr rfl T.m_law_check_small T.F_law_check_small.kp T.b_law_check_small .nil pass0 (pa_cons (pv 2) pa_nil))))))) (pss_one (ps_ret pe_bl)) pss_nil)))) (pss_one (ps_ret pe_bl))), ?_⟩
    refine ⟨_, rfl, by show 1 ≤ sizeLine; decide, fun b hb => ?_⟩
    have e1 := exn (o := .lst [.int 0]) hb
    refine ⟨a, b, _, _, rfl, rfl, Evl.ex_l e1 hS, SqL.of upd_same, ?_, fun c hc => ?_⟩
    · rw [List.length_map]
      exact Nat.le_trans (Nat.add_le_add_right hlen 1) (by decide)
    refine ⟨4, rfl, c, _, rfl, SqL.of upd_same, fun d hd => ?_⟩
    obtain ⟨ms, em⟩ := cut_ints ns none (some 4)
    have e3 : upd (upd (upd H b (.lst [.int 0])) c (.lst (ns.map V.int ++ [V.int 0]))) d (.lst (cutV (ns.map V.int ++ [V.int 0]) none (some 4))) d = some (.lst (ms.map V.int)) := by rw [upd_same, em]
    refine ⟨d, rfl, ⟨_, SqL.of e3⟩, ?_⟩
    refine for_it (walk_list (xs := ms.map V.int)) (fun i σ H => (∃ y y2, σ = [some (.ref a), y, y2]) ∧ H d = some (.lst (ms.map V.int))) ⟨⟨_, _, rfl⟩, e3⟩ (fun i σ H _ p => SqL.of p.2) ?_ (fun σ H p => k _)
    rintro i x σ H1 H2 hi ⟨⟨y, y2, rfl⟩, hd1⟩ ⟨rfl, hx⟩
    obtain ⟨n, _, rfl⟩ := map_get hx
    refine ⟨_, rfl, _, rfl, fun H2 s e2 hs src => ?_⟩
    refine ⟨_, rfl, s, rfl, src, fun H3 xb src3 => ⟨_, rfl, ?_⟩⟩
    refine ⟨_, rfl, s, rfl, src3, fun H4 xb4 src4 => ⟨_, rfl, ⟨_, _, rfl⟩, ?_⟩⟩
    exact xb4 _ _ (ne_of_none hd1 hs) (xb _ _ (ne_of_none hd1 hs) (e2 _ _ hd1))
end

theorem all_mk {K : PySem.W.Frag} {h : Heap} {mg : Str → Option Value} (X : K.In h) (G : h.Ns mainGlobals mg)
    {f0 f1 f2 f3 f4 f5 f6 f7 f8 f9 f10 f11 f12 f13 f14 f15 f16 f17 f18 f19 f20 f21 f22 f23 f24 f25 f26 f27 f28 f29 f30 C_Table : Addr}
    {od0 an0 od1 an1 od2 an2 od3 an3 od4 an4 od5 an5 od6 an6 od7 an7 od8 an8 od9 an9 od10 an10 od11 an11 od12 an12 od13 an13 od14 an14 od15 an15 od16 an16 od17 an17 od18 an18 od19 an19 od20 an20 od21 an21 od22 an22 od23 an23 od24 an24 od25 an25 od26 an26 od27 an27 od28 an28 od29 an29 od30 an30 : Option Addr} {sl0 sl1 sl2 sl3 sl4 sl5 sl6 sl7 sl8 sl9 sl10 sl11 sl12 sl13 sl14 sl15 sl16 sl17 sl18 sl19 sl20 sl21 sl22 sl23 sl24 sl25 sl26 sl27 sl28 sl29 sl30 : Array (Option Value)} {oc0 kV0 dc0 pm0 cd0 ct0 oc1 kV1 dc1 pm1 cd1 ct1 oc2 kV2 dc2 pm2 cd2 ct2 oc3 kV3 dc3 pm3 cd3 ct3 oc4 kV4 dc4 pm4 cd4 ct4 oc5 kV5 dc5 pm5 cd5 ct5 oc6 kV6 dc6 pm6 cd6 ct6 oc7 kV7 dc7 pm7 cd7 ct7 oc8 kV8 dc8 pm8 cd8 ct8 oc9 kV9 dc9 pm9 cd9 ct9 oc10 kV10 dc10 pm10 cd10 ct10 oc11 kV11 dc11 pm11 cd11 ct11 oc12 kV12 dc12 pm12 cd12 ct12 oc13 kV13 dc13 pm13 cd13 ct13 oc14 kV14 dc14 pm14 cd14 ct14 oc15 kV15 dc15 pm15 cd15 ct15 oc16 kV16 dc16 pm16 cd16 ct16 oc17 kV17 dc17 pm17 cd17 ct17 oc18 kV18 dc18 pm18 cd18 ct18 oc19 kV19 dc19 pm19 cd19 ct19 oc20 kV20 dc20 pm20 cd20 ct20 oc21 kV21 dc21 pm21 cd21 ct21 oc22 kV22 dc22 pm22 cd22 ct22 oc23 kV23 dc23 pm23 cd23 ct23 oc24 kV24 dc24 pm24 cd24 ct24 oc25 kV25 dc25 pm25 cd25 ct25 oc26 kV26 dc26 pm26 cd26 ct26 oc27 kV27 dc27 pm27 cd27 ct27 oc28 kV28 dc28 pm28 cd28 ct28 oc29 kV29 dc29 pm29 cd29 ct29 oc30 kV30 dc30 pm30 cd30 ct30 : Value}
    {t_MAX_RINGS : Tok}
    (aC_Table : PySem.W.nsIn K mainGlobals "Table" = some (some (.ref C_Table)))
    (a0 : PySem.W.nsIn K mainGlobals "_wall" = some (some (.ref f0)))
    (l0 : K.lookup f0 = some ⟨oc0, od0, .func (PySem.W.fnOf "_wall" "_wall" (defArgs s_wall) (defBody s_wall) (defScope s_wall) .none kV0 dc0 pm0 an0 cd0 ct0), sl0⟩)
    (c0 : PySem.W.codeIn K cd0 "_wall" = true)
    (k0 : PySem.W.keepIn K (.ref f0) = true)
    (a1 : PySem.W.nsIn K mainGlobals "is_integer" = some (some (.ref f1)))
    (l1 : K.lookup f1 = some ⟨oc1, od1, .func (PySem.W.fnOf "is_integer" "is_integer" (defArgs s_is_integer) (defBody s_is_integer) (defScope s_is_integer) .none kV1 dc1 pm1 an1 cd1 ct1), sl1⟩)
    (c1 : PySem.W.codeIn K cd1 "is_integer" = true)
    (k1 : PySem.W.keepIn K (.ref f1) = true)
    (a2 : PySem.W.nsIn K mainGlobals "is_at_least" = some (some (.ref f2)))
    (l2 : K.lookup f2 = some ⟨oc2, od2, .func (PySem.W.fnOf "is_at_least" "is_at_least" (defArgs s_is_at_least) (defBody s_is_at_least) (defScope s_is_at_least) .none kV2 dc2 pm2 an2 cd2 ct2), sl2⟩)
    (c2 : PySem.W.codeIn K cd2 "is_at_least" = true)
    (k2 : PySem.W.keepIn K (.ref f2) = true)
    (a3 : PySem.W.nsIn K mainGlobals "is_between" = some (some (.ref f3)))
    (l3 : K.lookup f3 = some ⟨oc3, od3, .func (PySem.W.fnOf "is_between" "is_between" (defArgs s_is_between) (defBody s_is_between) (defScope s_is_between) .none kV3 dc3 pm3 an3 cd3 ct3), sl3⟩)
    (c3 : PySem.W.codeIn K cd3 "is_between" = true)
    (k3 : PySem.W.keepIn K (.ref f3) = true)
    (a4 : PySem.W.nsIn K mainGlobals "greatest_common_divisor" = some (some (.ref f4)))
    (l4 : K.lookup f4 = some ⟨oc4, od4, .func (PySem.W.fnOf "greatest_common_divisor" "greatest_common_divisor" (defArgs s_greatest_common_divisor) (defBody s_greatest_common_divisor) (defScope s_greatest_common_divisor) .none kV4 dc4 pm4 an4 cd4 ct4), sl4⟩)
    (c4 : PySem.W.codeIn K cd4 "greatest_common_divisor" = true)
    (k4 : PySem.W.keepIn K (.ref f4) = true)
    (a5 : PySem.W.findIn K (.ref C_Table) "__init__" = some (some (.ref f5)))
    (i5 : PySem.W.isFn K (.ref f5) = true)
    (l5 : K.lookup f5 = some ⟨oc5, od5, .func (PySem.W.fnOf "__init__" "Table.__init__" (defArgs s_Table_init) (defBody s_Table_init) (defScope s_Table_init) .none kV5 dc5 pm5 an5 cd5 ct5), sl5⟩)
    (c5 : PySem.W.codeIn K cd5 "Table.__init__" = true)
    (k5 : PySem.W.keepIn K (.ref f5) = true)
    (a6 : PySem.W.findIn K (.ref C_Table) "sizes" = some (some (.ref f6)))
    (i6 : PySem.W.isFn K (.ref f6) = true)
    (l6 : K.lookup f6 = some ⟨oc6, od6, .func (PySem.W.fnOf "sizes" "Table.sizes" (defArgs s_Table_sizes) (defBody s_Table_sizes) (defScope s_Table_sizes) .none kV6 dc6 pm6 an6 cd6 ct6), sl6⟩)
    (c6 : PySem.W.codeIn K cd6 "Table.sizes" = true)
    (k6 : PySem.W.keepIn K (.ref f6) = true)
    (a7 : PySem.W.findIn K (.ref C_Table) "count" = some (some (.ref f7)))
    (i7 : PySem.W.isFn K (.ref f7) = true)
    (l7 : K.lookup f7 = some ⟨oc7, od7, .func (PySem.W.fnOf "count" "Table.count" (defArgs s_Table_count) (defBody s_Table_count) (defScope s_Table_count) .none kV7 dc7 pm7 an7 cd7 ct7), sl7⟩)
    (c7 : PySem.W.codeIn K cd7 "Table.count" = true)
    (k7 : PySem.W.keepIn K (.ref f7) = true)
    (a8 : PySem.W.findIn K (.ref C_Table) "is_seat" = some (some (.ref f8)))
    (i8 : PySem.W.isFn K (.ref f8) = true)
    (l8 : K.lookup f8 = some ⟨oc8, od8, .func (PySem.W.fnOf "is_seat" "Table.is_seat" (defArgs s_Table_is_seat) (defBody s_Table_is_seat) (defScope s_Table_is_seat) .none kV8 dc8 pm8 an8 cd8 ct8), sl8⟩)
    (c8 : PySem.W.codeIn K cd8 "Table.is_seat" = true)
    (k8 : PySem.W.keepIn K (.ref f8) = true)
    (a9 : PySem.W.findIn K (.ref C_Table) "is_call" = some (some (.ref f9)))
    (i9 : PySem.W.isFn K (.ref f9) = true)
    (l9 : K.lookup f9 = some ⟨oc9, od9, .func (PySem.W.fnOf "is_call" "Table.is_call" (defArgs s_Table_is_call) (defBody s_Table_is_call) (defScope s_Table_is_call) .none kV9 dc9 pm9 an9 cd9 ct9), sl9⟩)
    (c9 : PySem.W.codeIn K cd9 "Table.is_call" = true)
    (k9 : PySem.W.keepIn K (.ref f9) = true)
    (a10 : PySem.W.findIn K (.ref C_Table) "shifted" = some (some (.ref f10)))
    (i10 : PySem.W.isFn K (.ref f10) = true)
    (l10 : K.lookup f10 = some ⟨oc10, od10, .func (PySem.W.fnOf "shifted" "Table.shifted" (defArgs s_Table_shifted) (defBody s_Table_shifted) (defScope s_Table_shifted) .none kV10 dc10 pm10 an10 cd10 ct10), sl10⟩)
    (c10 : PySem.W.codeIn K cd10 "Table.shifted" = true)
    (k10 : PySem.W.keepIn K (.ref f10) = true)
    (a11 : PySem.W.findIn K (.ref C_Table) "moves" = some (some (.ref f11)))
    (i11 : PySem.W.isFn K (.ref f11) = true)
    (l11 : K.lookup f11 = some ⟨oc11, od11, .func (PySem.W.fnOf "moves" "Table.moves" (defArgs s_Table_moves) (defBody s_Table_moves) (defScope s_Table_moves) .none kV11 dc11 pm11 an11 cd11 ct11), sl11⟩)
    (c11 : PySem.W.codeIn K cd11 "Table.moves" = true)
    (k11 : PySem.W.keepIn K (.ref f11) = true)
    (a12 : PySem.W.findIn K (.ref C_Table) "step" = some (some (.ref f12)))
    (i12 : PySem.W.isFn K (.ref f12) = true)
    (l12 : K.lookup f12 = some ⟨oc12, od12, .func (PySem.W.fnOf "step" "Table.step" (defArgs s_Table_step) (defBody s_Table_step) (defScope s_Table_step) .none kV12 dc12 pm12 an12 cd12 ct12), sl12⟩)
    (c12 : PySem.W.codeIn K cd12 "Table.step" = true)
    (k12 : PySem.W.keepIn K (.ref f12) = true)
    (a13 : PySem.W.findIn K (.ref C_Table) "order" = some (some (.ref f13)))
    (i13 : PySem.W.isFn K (.ref f13) = true)
    (l13 : K.lookup f13 = some ⟨oc13, od13, .func (PySem.W.fnOf "order" "Table.order" (defArgs s_Table_order) (defBody s_Table_order) (defScope s_Table_order) .none kV13 dc13 pm13 an13 cd13 ct13), sl13⟩)
    (c13 : PySem.W.codeIn K cd13 "Table.order" = true)
    (k13 : PySem.W.keepIn K (.ref f13) = true)
    (a14 : PySem.W.findIn K (.ref C_Table) "halves" = some (some (.ref f14)))
    (i14 : PySem.W.isFn K (.ref f14) = true)
    (l14 : K.lookup f14 = some ⟨oc14, od14, .func (PySem.W.fnOf "halves" "Table.halves" (defArgs s_Table_halves) (defBody s_Table_halves) (defScope s_Table_halves) .none kV14 dc14 pm14 an14 cd14 ct14), sl14⟩)
    (c14 : PySem.W.codeIn K cd14 "Table.halves" = true)
    (k14 : PySem.W.keepIn K (.ref f14) = true)
    (a15 : PySem.W.nsIn K mainGlobals "half_places" = some (some (.ref f15)))
    (l15 : K.lookup f15 = some ⟨oc15, od15, .func (PySem.W.fnOf "half_places" "half_places" (defArgs s_half_places) (defBody s_half_places) (defScope s_half_places) .none kV15 dc15 pm15 an15 cd15 ct15), sl15⟩)
    (c15 : PySem.W.codeIn K cd15 "half_places" = true)
    (k15 : PySem.W.keepIn K (.ref f15) = true)
    (a16 : PySem.W.nsIn K mainGlobals "require_seat" = some (some (.ref f16)))
    (l16 : K.lookup f16 = some ⟨oc16, od16, .func (PySem.W.fnOf "require_seat" "require_seat" (defArgs s_require_seat) (defBody s_require_seat) (defScope s_require_seat) .none kV16 dc16 pm16 an16 cd16 ct16), sl16⟩)
    (c16 : PySem.W.codeIn K cd16 "require_seat" = true)
    (k16 : PySem.W.keepIn K (.ref f16) = true)
    (a17 : PySem.W.nsIn K mainGlobals "_law_mixed" = some (some (.ref f17)))
    (l17 : K.lookup f17 = some ⟨oc17, od17, .func (PySem.W.fnOf "_law_mixed" "_law_mixed" (defArgs s_law_mixed) (defBody s_law_mixed) (defScope s_law_mixed) .none kV17 dc17 pm17 an17 cd17 ct17), sl17⟩)
    (c17 : PySem.W.codeIn K cd17 "_law_mixed" = true)
    (k17 : PySem.W.keepIn K (.ref f17) = true)
    (a18 : PySem.W.nsIn K mainGlobals "_law_source" = some (some (.ref f18)))
    (l18 : K.lookup f18 = some ⟨oc18, od18, .func (PySem.W.fnOf "_law_source" "_law_source" (defArgs s_law_source) (defBody s_law_source) (defScope s_law_source) .none kV18 dc18 pm18 an18 cd18 ct18), sl18⟩)
    (c18 : PySem.W.codeIn K cd18 "_law_source" = true)
    (k18 : PySem.W.keepIn K (.ref f18) = true)
    (a19 : PySem.W.nsIn K mainGlobals "_law_take" = some (some (.ref f19)))
    (l19 : K.lookup f19 = some ⟨oc19, od19, .func (PySem.W.fnOf "_law_take" "_law_take" (defArgs s_law_take) (defBody s_law_take) (defScope s_law_take) .none kV19 dc19 pm19 an19 cd19 ct19), sl19⟩)
    (c19 : PySem.W.codeIn K cd19 "_law_take" = true)
    (k19 : PySem.W.keepIn K (.ref f19) = true)
    (a20 : PySem.W.nsIn K mainGlobals "_law_big" = some (some (.ref f20)))
    (l20 : K.lookup f20 = some ⟨oc20, od20, .func (PySem.W.fnOf "_law_big" "_law_big" (defArgs s_law_big) (defBody s_law_big) (defScope s_law_big) .none kV20 dc20 pm20 an20 cd20 ct20), sl20⟩)
    (c20 : PySem.W.codeIn K cd20 "_law_big" = true)
    (k20 : PySem.W.keepIn K (.ref f20) = true)
    (a21 : PySem.W.nsIn K mainGlobals "_law_rings" = some (some (.ref f21)))
    (l21 : K.lookup f21 = some ⟨oc21, od21, .func (PySem.W.fnOf "_law_rings" "_law_rings" (defArgs s_law_rings) (defBody s_law_rings) (defScope s_law_rings) .none kV21 dc21 pm21 an21 cd21 ct21), sl21⟩)
    (c21 : PySem.W.codeIn K cd21 "_law_rings" = true)
    (k21 : PySem.W.keepIn K (.ref f21) = true)
    (a22 : PySem.W.nsIn K mainGlobals "_law_seat" = some (some (.ref f22)))
    (l22 : K.lookup f22 = some ⟨oc22, od22, .func (PySem.W.fnOf "_law_seat" "_law_seat" (defArgs s_law_seat) (defBody s_law_seat) (defScope s_law_seat) .none kV22 dc22 pm22 an22 cd22 ct22), sl22⟩)
    (c22 : PySem.W.codeIn K cd22 "_law_seat" = true)
    (k22 : PySem.W.keepIn K (.ref f22) = true)
    (a23 : PySem.W.nsIn K mainGlobals "_law_gcd" = some (some (.ref f23)))
    (l23 : K.lookup f23 = some ⟨oc23, od23, .func (PySem.W.fnOf "_law_gcd" "_law_gcd" (defArgs s_law_gcd) (defBody s_law_gcd) (defScope s_law_gcd) .none kV23 dc23 pm23 an23 cd23 ct23), sl23⟩)
    (c23 : PySem.W.codeIn K cd23 "_law_gcd" = true)
    (k23 : PySem.W.keepIn K (.ref f23) = true)
    (a24 : PySem.W.nsIn K mainGlobals "_law_all" = some (some (.ref f24)))
    (l24 : K.lookup f24 = some ⟨oc24, od24, .func (PySem.W.fnOf "_law_all" "_law_all" (defArgs s_law_all) (defBody s_law_all) (defScope s_law_all) .none kV24 dc24 pm24 an24 cd24 ct24), sl24⟩)
    (c24 : PySem.W.codeIn K cd24 "_law_all" = true)
    (k24 : PySem.W.keepIn K (.ref f24) = true)
    (a25 : PySem.W.nsIn K mainGlobals "_law_sum" = some (some (.ref f25)))
    (l25 : K.lookup f25 = some ⟨oc25, od25, .func (PySem.W.fnOf "_law_sum" "_law_sum" (defArgs s_law_sum) (defBody s_law_sum) (defScope s_law_sum) .none kV25 dc25 pm25 an25 cd25 ct25), sl25⟩)
    (c25 : PySem.W.codeIn K cd25 "_law_sum" = true)
    (k25 : PySem.W.keepIn K (.ref f25) = true)
    (a26 : PySem.W.nsIn K mainGlobals "_law_period" = some (some (.ref f26)))
    (l26 : K.lookup f26 = some ⟨oc26, od26, .func (PySem.W.fnOf "_law_period" "_law_period" (defArgs s_law_period) (defBody s_law_period) (defScope s_law_period) .none kV26 dc26 pm26 an26 cd26 ct26), sl26⟩)
    (c26 : PySem.W.codeIn K cd26 "_law_period" = true)
    (k26 : PySem.W.keepIn K (.ref f26) = true)
    (a27 : PySem.W.nsIn K mainGlobals "_law_halves" = some (some (.ref f27)))
    (l27 : K.lookup f27 = some ⟨oc27, od27, .func (PySem.W.fnOf "_law_halves" "_law_halves" (defArgs s_law_halves) (defBody s_law_halves) (defScope s_law_halves) .none kV27 dc27 pm27 an27 cd27 ct27), sl27⟩)
    (c27 : PySem.W.codeIn K cd27 "_law_halves" = true)
    (k27 : PySem.W.keepIn K (.ref f27) = true)
    (a28 : PySem.W.nsIn K mainGlobals "_law_check_small" = some (some (.ref f28)))
    (l28 : K.lookup f28 = some ⟨oc28, od28, .func (PySem.W.fnOf "_law_check_small" "_law_check_small" (defArgs s_law_check_small) (defBody s_law_check_small) (defScope s_law_check_small) .none kV28 dc28 pm28 an28 cd28 ct28), sl28⟩)
    (c28 : PySem.W.codeIn K cd28 "_law_check_small" = true)
    (k28 : PySem.W.keepIn K (.ref f28) = true)
    (a29 : PySem.W.nsIn K mainGlobals "_law_check" = some (some (.ref f29)))
    (l29 : K.lookup f29 = some ⟨oc29, od29, .func (PySem.W.fnOf "_law_check" "_law_check" (defArgs s_law_check) (defBody s_law_check) (defScope s_law_check) .none kV29 dc29 pm29 an29 cd29 ct29), sl29⟩)
    (c29 : PySem.W.codeIn K cd29 "_law_check" = true)
    (k29 : PySem.W.keepIn K (.ref f29) = true)
    (a30 : PySem.W.nsIn K mainGlobals "law" = some (some (.ref f30)))
    (l30 : K.lookup f30 = some ⟨oc30, od30, .func (PySem.W.fnOf "law" "law" (defArgs s_law) (defBody s_law) (defScope s_law) .none kV30 dc30 pm30 an30 cd30 ct30), sl30⟩)
    (c30 : PySem.W.codeIn K cd30 "law" = true)
    (k30 : PySem.W.keepIn K (.ref f30) = true)
    (pg_Table : PySem.W.plainGet K C_Table Str.empty = true)
    (hd_Table : PySem.W.hasDictIn K C_Table = true)
    (po_Table : PySem.W.plainOver K C_Table = true)
    (sa_Table : PySem.W.findIn K (.ref C_Table) "__setattr__" = some (some (.builtin "object.__setattr__")))
    (mk_Table : PySem.W.makesIn K C_Table = true)
    (kc_Table : PySem.W.keepIn K (.ref C_Table) = true)
    (n_Table_rings : PySem.W.findIn K (.ref C_Table) "rings" = some none)
    (v_MAX_RINGS : PySem.W.nsIn K mainGlobals "MAX_RINGS" = some (some (.int 4 t_MAX_RINGS)))
    (z_abs : PySem.W.nsIn K mainGlobals "abs" = some none)
    (z_all : PySem.W.nsIn K mainGlobals "all" = some none)
    (z_bool : PySem.W.nsIn K mainGlobals "bool" = some none)
    (z_int : PySem.W.nsIn K mainGlobals "int" = some none)
    (z_isinstance : PySem.W.nsIn K mainGlobals "isinstance" = some none)
    (z_len : PySem.W.nsIn K mainGlobals "len" = some none)
    (z_list : PySem.W.nsIn K mainGlobals "list" = some none)
    (z_min : PySem.W.nsIn K mainGlobals "min" = some none)
    (z_range : PySem.W.nsIn K mainGlobals "range" = some none)
    (z_set : PySem.W.nsIn K mainGlobals "set" = some none)
    (z_sorted : PySem.W.nsIn K mainGlobals "sorted" = some none)
    (z_tuple : PySem.W.nsIn K mainGlobals "tuple" = some none)
    (z_zip : PySem.W.nsIn K mainGlobals "zip" = some none)
    : ∃ T : TX K mg, T.f_law = f30 ∧ T.fd_law = PySem.W.fnOf "law" "law" (defArgs s_law) (defBody s_law) (defScope s_law) .none kV30 dc30 pm30 an30 cd30 ct30 := by
  have F0 := fun_mk (st := s_wall) l0 c0 k0
  have b0 := F0.binds (ps := ["k"]) fun _ _ _ _ _ _ us hl => match us, hl with | [_], _ => rfl
  have F1 := fun_mk (st := s_is_integer) l1 c1 k1
  have b1 := F1.binds (ps := ["value"]) fun _ _ _ _ _ _ us hl => match us, hl with | [_], _ => rfl
  have F2 := fun_mk (st := s_is_at_least) l2 c2 k2
  have b2 := F2.binds (ps := ["value", "low"]) fun _ _ _ _ _ _ us hl => match us, hl with | [_, _], _ => rfl
  have F3 := fun_mk (st := s_is_between) l3 c3 k3
  have b3 := F3.binds (ps := ["value", "low", "high"]) fun _ _ _ _ _ _ us hl => match us, hl with | [_, _, _], _ => rfl
  have F4 := fun_mk (st := s_greatest_common_divisor) l4 c4 k4
  have b4 := F4.binds (ps := ["first", "second"]) fun _ _ _ _ _ _ us hl => match us, hl with | [_, _], _ => rfl
  have F5 := fun_mk (st := s_Table_init) l5 c5 k5
  have b5 := F5.binds (ps := ["self", "rings"]) fun _ _ _ _ _ _ us hl => match us, hl with | [_, _], _ => rfl
  have F6 := fun_mk (st := s_Table_sizes) l6 c6 k6
  have b6 := F6.binds (ps := ["self"]) fun _ _ _ _ _ _ us hl => match us, hl with | [_], _ => rfl
  have F7 := fun_mk (st := s_Table_count) l7 c7 k7
  have b7 := F7.binds (ps := ["self"]) fun _ _ _ _ _ _ us hl => match us, hl with | [_], _ => rfl
  have F8 := fun_mk (st := s_Table_is_seat) l8 c8 k8
  have b8 := F8.binds (ps := ["self", "value"]) fun _ _ _ _ _ _ us hl => match us, hl with | [_, _], _ => rfl
  have F9 := fun_mk (st := s_Table_is_call) l9 c9 k9
  have b9 := F9.binds (ps := ["self", "value"]) fun _ _ _ _ _ _ us hl => match us, hl with | [_, _], _ => rfl
  have F10 := fun_mk (st := s_Table_shifted) l10 c10 k10
  have b10 := F10.binds (ps := ["self", "seat", "call", "factor"]) fun _ _ _ _ _ _ us hl => match us, hl with | [_, _, _, _], _ => rfl
  have F11 := fun_mk (st := s_Table_moves) l11 c11 k11
  have b11 := F11.binds (ps := ["self", "seat", "call"]) fun _ _ _ _ _ _ us hl => match us, hl with | [_, _, _], _ => rfl
  have F12 := fun_mk (st := s_Table_step) l12 c12 k12
  have b12 := F12.binds (ps := ["self", "seat", "call", "direction"]) fun _ _ _ _ _ _ us hl => match us, hl with | [_, _, _, _], _ => rfl
  have F13 := fun_mk (st := s_Table_order) l13 c13 k13
  have b13 := F13.binds (ps := ["self", "seat"]) fun _ _ _ _ _ _ us hl => match us, hl with | [_, _], _ => rfl
  have F14 := fun_mk (st := s_Table_halves) l14 c14 k14
  have b14 := F14.binds (ps := ["self", "seat"]) fun _ _ _ _ _ _ us hl => match us, hl with | [_, _], _ => rfl
  have F15 := fun_mk (st := s_half_places) l15 c15 k15
  have b15 := F15.binds (ps := ["place", "size"]) fun _ _ _ _ _ _ us hl => match us, hl with | [_, _], _ => rfl
  have F16 := fun_mk (st := s_require_seat) l16 c16 k16
  have b16 := F16.binds (ps := ["table", "seat"]) fun _ _ _ _ _ _ us hl => match us, hl with | [_, _], _ => rfl
  have F17 := fun_mk (st := s_law_mixed) l17 c17 k17
  have b17 := F17.binds (ps := ["_law_cell", "_law_draw"]) fun _ _ _ _ _ _ us hl => match us, hl with | [_, _], _ => rfl
  have F18 := fun_mk (st := s_law_source) l18 c18 k18
  have b18 := F18.binds (ps := ["_law_cell"]) fun _ _ _ _ _ _ us hl => match us, hl with | [_], _ => rfl
  have F19 := fun_mk (st := s_law_take) l19 c19 k19
  have b19 := F19.binds (ps := ["_law_source_here", "_law_count"]) fun _ _ _ _ _ _ us hl => match us, hl with | [_, _], _ => rfl
  have F20 := fun_mk (st := s_law_big) l20 c20 k20
  have b20 := F20.binds (ps := ["_law_source_here"]) fun _ _ _ _ _ _ us hl => match us, hl with | [_], _ => rfl
  have F21 := fun_mk (st := s_law_rings) l21 c21 k21
  have b21 := F21.binds (ps := ["_law_source_here"]) fun _ _ _ _ _ _ us hl => match us, hl with | [_], _ => rfl
  have F22 := fun_mk (st := s_law_seat) l22 c22 k22
  have b22 := F22.binds (ps := ["_law_source_here", "_law_sizes"]) fun _ _ _ _ _ _ us hl => match us, hl with | [_, _], _ => rfl
  have F23 := fun_mk (st := s_law_gcd) l23 c23 k23
  have b23 := F23.binds (ps := ["_law_first", "_law_second"]) fun _ _ _ _ _ _ us hl => match us, hl with | [_, _], _ => rfl
  have F24 := fun_mk (st := s_law_all) l24 c24 k24
  have b24 := F24.binds (ps := ["_law_sizes"]) fun _ _ _ _ _ _ us hl => match us, hl with | [_], _ => rfl
  have F25 := fun_mk (st := s_law_sum) l25 c25 k25
  have b25 := F25.binds (ps := ["_law_first", "_law_second", "_law_sizes"]) fun _ _ _ _ _ _ us hl => match us, hl with | [_, _, _], _ => rfl
  have F26 := fun_mk (st := s_law_period) l26 c26 k26
  have b26 := F26.binds (ps := ["_law_origin", "_law_sizes"]) fun _ _ _ _ _ _ us hl => match us, hl with | [_, _], _ => rfl
  have F27 := fun_mk (st := s_law_halves) l27 c27 k27
  have b27 := F27.binds (ps := ["_law_origin", "_law_sizes"]) fun _ _ _ _ _ _ us hl => match us, hl with | [_, _], _ => rfl
  have F28 := fun_mk (st := s_law_check_small) l28 c28 k28
  have b28 := F28.binds (ps := ["_law_source_here"]) fun _ _ _ _ _ _ us hl => match us, hl with | [_], _ => rfl
  have F29 := fun_mk (st := s_law_check) l29 c29 k29
  have b29 := F29.binds (ps := ["_law_source_here"]) fun _ _ _ _ _ _ us hl => match us, hl with | [_], _ => rfl
  have F30 := fun_mk (st := s_law) l30 c30 k30
  have b30 := F30.binds (ps := ["_law_script"]) fun _ _ _ _ _ _ us hl => match us, hl with | [_], _ => rfl
  exact ⟨{
    f_wall := f0, fd_wall := _, F_wall := F0, b_wall := b0, m_wall := PySem.W.mg_of X G a0,
    f_is_integer := f1, fd_is_integer := _, F_is_integer := F1, b_is_integer := b1, m_is_integer := PySem.W.mg_of X G a1,
    f_is_at_least := f2, fd_is_at_least := _, F_is_at_least := F2, b_is_at_least := b2, m_is_at_least := PySem.W.mg_of X G a2,
    f_is_between := f3, fd_is_between := _, F_is_between := F3, b_is_between := b3, m_is_between := PySem.W.mg_of X G a3,
    f_greatest_common_divisor := f4, fd_greatest_common_divisor := _, F_greatest_common_divisor := F4, b_greatest_common_divisor := b4, m_greatest_common_divisor := PySem.W.mg_of X G a4,
    f_Table_init := f5, fd_Table_init := _, F_Table_init := F5, b_Table_init := b5,
    f_Table_sizes := f6, fd_Table_sizes := _, F_Table_sizes := F6, b_Table_sizes := b6,
    f_Table_count := f7, fd_Table_count := _, F_Table_count := F7, b_Table_count := b7,
    f_Table_is_seat := f8, fd_Table_is_seat := _, F_Table_is_seat := F8, b_Table_is_seat := b8,
    f_Table_is_call := f9, fd_Table_is_call := _, F_Table_is_call := F9, b_Table_is_call := b9,
    f_Table_shifted := f10, fd_Table_shifted := _, F_Table_shifted := F10, b_Table_shifted := b10,
    f_Table_moves := f11, fd_Table_moves := _, F_Table_moves := F11, b_Table_moves := b11,
    f_Table_step := f12, fd_Table_step := _, F_Table_step := F12, b_Table_step := b12,
    f_Table_order := f13, fd_Table_order := _, F_Table_order := F13, b_Table_order := b13,
    f_Table_halves := f14, fd_Table_halves := _, F_Table_halves := F14, b_Table_halves := b14,
    f_half_places := f15, fd_half_places := _, F_half_places := F15, b_half_places := b15, m_half_places := PySem.W.mg_of X G a15,
    f_require_seat := f16, fd_require_seat := _, F_require_seat := F16, b_require_seat := b16, m_require_seat := PySem.W.mg_of X G a16,
    f_law_mixed := f17, fd_law_mixed := _, F_law_mixed := F17, b_law_mixed := b17, m_law_mixed := PySem.W.mg_of X G a17,
    f_law_source := f18, fd_law_source := _, F_law_source := F18, b_law_source := b18, m_law_source := PySem.W.mg_of X G a18,
    f_law_take := f19, fd_law_take := _, F_law_take := F19, b_law_take := b19, m_law_take := PySem.W.mg_of X G a19,
    f_law_big := f20, fd_law_big := _, F_law_big := F20, b_law_big := b20, m_law_big := PySem.W.mg_of X G a20,
    f_law_rings := f21, fd_law_rings := _, F_law_rings := F21, b_law_rings := b21, m_law_rings := PySem.W.mg_of X G a21,
    f_law_seat := f22, fd_law_seat := _, F_law_seat := F22, b_law_seat := b22, m_law_seat := PySem.W.mg_of X G a22,
    f_law_gcd := f23, fd_law_gcd := _, F_law_gcd := F23, b_law_gcd := b23, m_law_gcd := PySem.W.mg_of X G a23,
    f_law_all := f24, fd_law_all := _, F_law_all := F24, b_law_all := b24, m_law_all := PySem.W.mg_of X G a24,
    f_law_sum := f25, fd_law_sum := _, F_law_sum := F25, b_law_sum := b25, m_law_sum := PySem.W.mg_of X G a25,
    f_law_period := f26, fd_law_period := _, F_law_period := F26, b_law_period := b26, m_law_period := PySem.W.mg_of X G a26,
    f_law_halves := f27, fd_law_halves := _, F_law_halves := F27, b_law_halves := b27, m_law_halves := PySem.W.mg_of X G a27,
    f_law_check_small := f28, fd_law_check_small := _, F_law_check_small := F28, b_law_check_small := b28, m_law_check_small := PySem.W.mg_of X G a28,
    f_law_check := f29, fd_law_check := _, F_law_check := F29, b_law_check := b29, m_law_check := PySem.W.mg_of X G a29,
    f_law := f30, fd_law := _, F_law := F30, b_law := b30, m_law := PySem.W.mg_of X G a30,
    C_Table := C_Table, cl_Table := ⟨pg_Table, hd_Table, po_Table, sa_Table⟩, m_Table := PySem.W.mg_of X G aC_Table,
    M_Table := ⟨mk_Table, a5, i5, kc_Table⟩,
    me_Table_sizes := ⟨a6, i6, k6⟩,
    me_Table_count := ⟨a7, i7, k7⟩,
    me_Table_is_seat := ⟨a8, i8, k8⟩,
    me_Table_is_call := ⟨a9, i9, k9⟩,
    me_Table_shifted := ⟨a10, i10, k10⟩,
    me_Table_moves := ⟨a11, i11, k11⟩,
    me_Table_step := ⟨a12, i12, k12⟩,
    me_Table_order := ⟨a13, i13, k13⟩,
    me_Table_halves := ⟨a14, i14, k14⟩,
    n_Table_rings := n_Table_rings,
    t_MAX_RINGS := _, c_MAX_RINGS := PySem.W.mg_of X G v_MAX_RINGS,
    z_abs := PySem.W.mg_none_of X G z_abs,
    z_all := PySem.W.mg_none_of X G z_all,
    z_bool := PySem.W.mg_none_of X G z_bool,
    z_int := PySem.W.mg_none_of X G z_int,
    z_isinstance := PySem.W.mg_none_of X G z_isinstance,
    z_len := PySem.W.mg_none_of X G z_len,
    z_list := PySem.W.mg_none_of X G z_list,
    z_min := PySem.W.mg_none_of X G z_min,
    z_range := PySem.W.mg_none_of X G z_range,
    z_set := PySem.W.mg_none_of X G z_set,
    z_sorted := PySem.W.mg_none_of X G z_sorted,
    z_tuple := PySem.W.mg_none_of X G z_tuple,
    z_zip := PySem.W.mg_none_of X G z_zip
  }, rfl, rfl⟩
theorem use_mk {K : PySem.W.Frag} {h : Heap} {mg : Str → Option Value} (X : K.In h) (G : h.Ns mainGlobals mg)
    {f0 f1 f2 f3 f4 f5 f6 f7 f8 f9 f10 f11 f12 f13 f14 f15 f16 f17 f18 f19 f20 f21 f22 f23 f24 f25 f26 f27 f28 f29 f30 C_Table : Addr}
    {od0 an0 od1 an1 od2 an2 od3 an3 od4 an4 od5 an5 od6 an6 od7 an7 od8 an8 od9 an9 od10 an10 od11 an11 od12 an12 od13 an13 od14 an14 od15 an15 od16 an16 od17 an17 od18 an18 od19 an19 od20 an20 od21 an21 od22 an22 od23 an23 od24 an24 od25 an25 od26 an26 od27 an27 od28 an28 od29 an29 od30 an30 : Option Addr} {sl0 sl1 sl2 sl3 sl4 sl5 sl6 sl7 sl8 sl9 sl10 sl11 sl12 sl13 sl14 sl15 sl16 sl17 sl18 sl19 sl20 sl21 sl22 sl23 sl24 sl25 sl26 sl27 sl28 sl29 sl30 : Array (Option Value)} {oc0 kV0 dc0 pm0 cd0 ct0 oc1 kV1 dc1 pm1 cd1 ct1 oc2 kV2 dc2 pm2 cd2 ct2 oc3 kV3 dc3 pm3 cd3 ct3 oc4 kV4 dc4 pm4 cd4 ct4 oc5 kV5 dc5 pm5 cd5 ct5 oc6 kV6 dc6 pm6 cd6 ct6 oc7 kV7 dc7 pm7 cd7 ct7 oc8 kV8 dc8 pm8 cd8 ct8 oc9 kV9 dc9 pm9 cd9 ct9 oc10 kV10 dc10 pm10 cd10 ct10 oc11 kV11 dc11 pm11 cd11 ct11 oc12 kV12 dc12 pm12 cd12 ct12 oc13 kV13 dc13 pm13 cd13 ct13 oc14 kV14 dc14 pm14 cd14 ct14 oc15 kV15 dc15 pm15 cd15 ct15 oc16 kV16 dc16 pm16 cd16 ct16 oc17 kV17 dc17 pm17 cd17 ct17 oc18 kV18 dc18 pm18 cd18 ct18 oc19 kV19 dc19 pm19 cd19 ct19 oc20 kV20 dc20 pm20 cd20 ct20 oc21 kV21 dc21 pm21 cd21 ct21 oc22 kV22 dc22 pm22 cd22 ct22 oc23 kV23 dc23 pm23 cd23 ct23 oc24 kV24 dc24 pm24 cd24 ct24 oc25 kV25 dc25 pm25 cd25 ct25 oc26 kV26 dc26 pm26 cd26 ct26 oc27 kV27 dc27 pm27 cd27 ct27 oc28 kV28 dc28 pm28 cd28 ct28 oc29 kV29 dc29 pm29 cd29 ct29 oc30 kV30 dc30 pm30 cd30 ct30 : Value}
    {t_MAX_RINGS : Tok}
    (aC_Table : PySem.W.nsIn K mainGlobals "Table" = some (some (.ref C_Table)))
    (a0 : PySem.W.nsIn K mainGlobals "_wall" = some (some (.ref f0)))
    (l0 : K.lookup f0 = some ⟨oc0, od0, .func (PySem.W.fnOf "_wall" "_wall" (defArgs s_wall) (defBody s_wall) (defScope s_wall) .none kV0 dc0 pm0 an0 cd0 ct0), sl0⟩)
    (c0 : PySem.W.codeIn K cd0 "_wall" = true)
    (k0 : PySem.W.keepIn K (.ref f0) = true)
    (a1 : PySem.W.nsIn K mainGlobals "is_integer" = some (some (.ref f1)))
    (l1 : K.lookup f1 = some ⟨oc1, od1, .func (PySem.W.fnOf "is_integer" "is_integer" (defArgs s_is_integer) (defBody s_is_integer) (defScope s_is_integer) .none kV1 dc1 pm1 an1 cd1 ct1), sl1⟩)
    (c1 : PySem.W.codeIn K cd1 "is_integer" = true)
    (k1 : PySem.W.keepIn K (.ref f1) = true)
    (a2 : PySem.W.nsIn K mainGlobals "is_at_least" = some (some (.ref f2)))
    (l2 : K.lookup f2 = some ⟨oc2, od2, .func (PySem.W.fnOf "is_at_least" "is_at_least" (defArgs s_is_at_least) (defBody s_is_at_least) (defScope s_is_at_least) .none kV2 dc2 pm2 an2 cd2 ct2), sl2⟩)
    (c2 : PySem.W.codeIn K cd2 "is_at_least" = true)
    (k2 : PySem.W.keepIn K (.ref f2) = true)
    (a3 : PySem.W.nsIn K mainGlobals "is_between" = some (some (.ref f3)))
    (l3 : K.lookup f3 = some ⟨oc3, od3, .func (PySem.W.fnOf "is_between" "is_between" (defArgs s_is_between) (defBody s_is_between) (defScope s_is_between) .none kV3 dc3 pm3 an3 cd3 ct3), sl3⟩)
    (c3 : PySem.W.codeIn K cd3 "is_between" = true)
    (k3 : PySem.W.keepIn K (.ref f3) = true)
    (a4 : PySem.W.nsIn K mainGlobals "greatest_common_divisor" = some (some (.ref f4)))
    (l4 : K.lookup f4 = some ⟨oc4, od4, .func (PySem.W.fnOf "greatest_common_divisor" "greatest_common_divisor" (defArgs s_greatest_common_divisor) (defBody s_greatest_common_divisor) (defScope s_greatest_common_divisor) .none kV4 dc4 pm4 an4 cd4 ct4), sl4⟩)
    (c4 : PySem.W.codeIn K cd4 "greatest_common_divisor" = true)
    (k4 : PySem.W.keepIn K (.ref f4) = true)
    (a5 : PySem.W.findIn K (.ref C_Table) "__init__" = some (some (.ref f5)))
    (i5 : PySem.W.isFn K (.ref f5) = true)
    (l5 : K.lookup f5 = some ⟨oc5, od5, .func (PySem.W.fnOf "__init__" "Table.__init__" (defArgs s_Table_init) (defBody s_Table_init) (defScope s_Table_init) .none kV5 dc5 pm5 an5 cd5 ct5), sl5⟩)
    (c5 : PySem.W.codeIn K cd5 "Table.__init__" = true)
    (k5 : PySem.W.keepIn K (.ref f5) = true)
    (a6 : PySem.W.findIn K (.ref C_Table) "sizes" = some (some (.ref f6)))
    (i6 : PySem.W.isFn K (.ref f6) = true)
    (l6 : K.lookup f6 = some ⟨oc6, od6, .func (PySem.W.fnOf "sizes" "Table.sizes" (defArgs s_Table_sizes) (defBody s_Table_sizes) (defScope s_Table_sizes) .none kV6 dc6 pm6 an6 cd6 ct6), sl6⟩)
    (c6 : PySem.W.codeIn K cd6 "Table.sizes" = true)
    (k6 : PySem.W.keepIn K (.ref f6) = true)
    (a7 : PySem.W.findIn K (.ref C_Table) "count" = some (some (.ref f7)))
    (i7 : PySem.W.isFn K (.ref f7) = true)
    (l7 : K.lookup f7 = some ⟨oc7, od7, .func (PySem.W.fnOf "count" "Table.count" (defArgs s_Table_count) (defBody s_Table_count) (defScope s_Table_count) .none kV7 dc7 pm7 an7 cd7 ct7), sl7⟩)
    (c7 : PySem.W.codeIn K cd7 "Table.count" = true)
    (k7 : PySem.W.keepIn K (.ref f7) = true)
    (a8 : PySem.W.findIn K (.ref C_Table) "is_seat" = some (some (.ref f8)))
    (i8 : PySem.W.isFn K (.ref f8) = true)
    (l8 : K.lookup f8 = some ⟨oc8, od8, .func (PySem.W.fnOf "is_seat" "Table.is_seat" (defArgs s_Table_is_seat) (defBody s_Table_is_seat) (defScope s_Table_is_seat) .none kV8 dc8 pm8 an8 cd8 ct8), sl8⟩)
    (c8 : PySem.W.codeIn K cd8 "Table.is_seat" = true)
    (k8 : PySem.W.keepIn K (.ref f8) = true)
    (a9 : PySem.W.findIn K (.ref C_Table) "is_call" = some (some (.ref f9)))
    (i9 : PySem.W.isFn K (.ref f9) = true)
    (l9 : K.lookup f9 = some ⟨oc9, od9, .func (PySem.W.fnOf "is_call" "Table.is_call" (defArgs s_Table_is_call) (defBody s_Table_is_call) (defScope s_Table_is_call) .none kV9 dc9 pm9 an9 cd9 ct9), sl9⟩)
    (c9 : PySem.W.codeIn K cd9 "Table.is_call" = true)
    (k9 : PySem.W.keepIn K (.ref f9) = true)
    (a10 : PySem.W.findIn K (.ref C_Table) "shifted" = some (some (.ref f10)))
    (i10 : PySem.W.isFn K (.ref f10) = true)
    (l10 : K.lookup f10 = some ⟨oc10, od10, .func (PySem.W.fnOf "shifted" "Table.shifted" (defArgs s_Table_shifted) (defBody s_Table_shifted) (defScope s_Table_shifted) .none kV10 dc10 pm10 an10 cd10 ct10), sl10⟩)
    (c10 : PySem.W.codeIn K cd10 "Table.shifted" = true)
    (k10 : PySem.W.keepIn K (.ref f10) = true)
    (a11 : PySem.W.findIn K (.ref C_Table) "moves" = some (some (.ref f11)))
    (i11 : PySem.W.isFn K (.ref f11) = true)
    (l11 : K.lookup f11 = some ⟨oc11, od11, .func (PySem.W.fnOf "moves" "Table.moves" (defArgs s_Table_moves) (defBody s_Table_moves) (defScope s_Table_moves) .none kV11 dc11 pm11 an11 cd11 ct11), sl11⟩)
    (c11 : PySem.W.codeIn K cd11 "Table.moves" = true)
    (k11 : PySem.W.keepIn K (.ref f11) = true)
    (a12 : PySem.W.findIn K (.ref C_Table) "step" = some (some (.ref f12)))
    (i12 : PySem.W.isFn K (.ref f12) = true)
    (l12 : K.lookup f12 = some ⟨oc12, od12, .func (PySem.W.fnOf "step" "Table.step" (defArgs s_Table_step) (defBody s_Table_step) (defScope s_Table_step) .none kV12 dc12 pm12 an12 cd12 ct12), sl12⟩)
    (c12 : PySem.W.codeIn K cd12 "Table.step" = true)
    (k12 : PySem.W.keepIn K (.ref f12) = true)
    (a13 : PySem.W.findIn K (.ref C_Table) "order" = some (some (.ref f13)))
    (i13 : PySem.W.isFn K (.ref f13) = true)
    (l13 : K.lookup f13 = some ⟨oc13, od13, .func (PySem.W.fnOf "order" "Table.order" (defArgs s_Table_order) (defBody s_Table_order) (defScope s_Table_order) .none kV13 dc13 pm13 an13 cd13 ct13), sl13⟩)
    (c13 : PySem.W.codeIn K cd13 "Table.order" = true)
    (k13 : PySem.W.keepIn K (.ref f13) = true)
    (a14 : PySem.W.findIn K (.ref C_Table) "halves" = some (some (.ref f14)))
    (i14 : PySem.W.isFn K (.ref f14) = true)
    (l14 : K.lookup f14 = some ⟨oc14, od14, .func (PySem.W.fnOf "halves" "Table.halves" (defArgs s_Table_halves) (defBody s_Table_halves) (defScope s_Table_halves) .none kV14 dc14 pm14 an14 cd14 ct14), sl14⟩)
    (c14 : PySem.W.codeIn K cd14 "Table.halves" = true)
    (k14 : PySem.W.keepIn K (.ref f14) = true)
    (a15 : PySem.W.nsIn K mainGlobals "half_places" = some (some (.ref f15)))
    (l15 : K.lookup f15 = some ⟨oc15, od15, .func (PySem.W.fnOf "half_places" "half_places" (defArgs s_half_places) (defBody s_half_places) (defScope s_half_places) .none kV15 dc15 pm15 an15 cd15 ct15), sl15⟩)
    (c15 : PySem.W.codeIn K cd15 "half_places" = true)
    (k15 : PySem.W.keepIn K (.ref f15) = true)
    (a16 : PySem.W.nsIn K mainGlobals "require_seat" = some (some (.ref f16)))
    (l16 : K.lookup f16 = some ⟨oc16, od16, .func (PySem.W.fnOf "require_seat" "require_seat" (defArgs s_require_seat) (defBody s_require_seat) (defScope s_require_seat) .none kV16 dc16 pm16 an16 cd16 ct16), sl16⟩)
    (c16 : PySem.W.codeIn K cd16 "require_seat" = true)
    (k16 : PySem.W.keepIn K (.ref f16) = true)
    (a17 : PySem.W.nsIn K mainGlobals "_law_mixed" = some (some (.ref f17)))
    (l17 : K.lookup f17 = some ⟨oc17, od17, .func (PySem.W.fnOf "_law_mixed" "_law_mixed" (defArgs s_law_mixed) (defBody s_law_mixed) (defScope s_law_mixed) .none kV17 dc17 pm17 an17 cd17 ct17), sl17⟩)
    (c17 : PySem.W.codeIn K cd17 "_law_mixed" = true)
    (k17 : PySem.W.keepIn K (.ref f17) = true)
    (a18 : PySem.W.nsIn K mainGlobals "_law_source" = some (some (.ref f18)))
    (l18 : K.lookup f18 = some ⟨oc18, od18, .func (PySem.W.fnOf "_law_source" "_law_source" (defArgs s_law_source) (defBody s_law_source) (defScope s_law_source) .none kV18 dc18 pm18 an18 cd18 ct18), sl18⟩)
    (c18 : PySem.W.codeIn K cd18 "_law_source" = true)
    (k18 : PySem.W.keepIn K (.ref f18) = true)
    (a19 : PySem.W.nsIn K mainGlobals "_law_take" = some (some (.ref f19)))
    (l19 : K.lookup f19 = some ⟨oc19, od19, .func (PySem.W.fnOf "_law_take" "_law_take" (defArgs s_law_take) (defBody s_law_take) (defScope s_law_take) .none kV19 dc19 pm19 an19 cd19 ct19), sl19⟩)
    (c19 : PySem.W.codeIn K cd19 "_law_take" = true)
    (k19 : PySem.W.keepIn K (.ref f19) = true)
    (a20 : PySem.W.nsIn K mainGlobals "_law_big" = some (some (.ref f20)))
    (l20 : K.lookup f20 = some ⟨oc20, od20, .func (PySem.W.fnOf "_law_big" "_law_big" (defArgs s_law_big) (defBody s_law_big) (defScope s_law_big) .none kV20 dc20 pm20 an20 cd20 ct20), sl20⟩)
    (c20 : PySem.W.codeIn K cd20 "_law_big" = true)
    (k20 : PySem.W.keepIn K (.ref f20) = true)
    (a21 : PySem.W.nsIn K mainGlobals "_law_rings" = some (some (.ref f21)))
    (l21 : K.lookup f21 = some ⟨oc21, od21, .func (PySem.W.fnOf "_law_rings" "_law_rings" (defArgs s_law_rings) (defBody s_law_rings) (defScope s_law_rings) .none kV21 dc21 pm21 an21 cd21 ct21), sl21⟩)
    (c21 : PySem.W.codeIn K cd21 "_law_rings" = true)
    (k21 : PySem.W.keepIn K (.ref f21) = true)
    (a22 : PySem.W.nsIn K mainGlobals "_law_seat" = some (some (.ref f22)))
    (l22 : K.lookup f22 = some ⟨oc22, od22, .func (PySem.W.fnOf "_law_seat" "_law_seat" (defArgs s_law_seat) (defBody s_law_seat) (defScope s_law_seat) .none kV22 dc22 pm22 an22 cd22 ct22), sl22⟩)
    (c22 : PySem.W.codeIn K cd22 "_law_seat" = true)
    (k22 : PySem.W.keepIn K (.ref f22) = true)
    (a23 : PySem.W.nsIn K mainGlobals "_law_gcd" = some (some (.ref f23)))
    (l23 : K.lookup f23 = some ⟨oc23, od23, .func (PySem.W.fnOf "_law_gcd" "_law_gcd" (defArgs s_law_gcd) (defBody s_law_gcd) (defScope s_law_gcd) .none kV23 dc23 pm23 an23 cd23 ct23), sl23⟩)
    (c23 : PySem.W.codeIn K cd23 "_law_gcd" = true)
    (k23 : PySem.W.keepIn K (.ref f23) = true)
    (a24 : PySem.W.nsIn K mainGlobals "_law_all" = some (some (.ref f24)))
    (l24 : K.lookup f24 = some ⟨oc24, od24, .func (PySem.W.fnOf "_law_all" "_law_all" (defArgs s_law_all) (defBody s_law_all) (defScope s_law_all) .none kV24 dc24 pm24 an24 cd24 ct24), sl24⟩)
    (c24 : PySem.W.codeIn K cd24 "_law_all" = true)
    (k24 : PySem.W.keepIn K (.ref f24) = true)
    (a25 : PySem.W.nsIn K mainGlobals "_law_sum" = some (some (.ref f25)))
    (l25 : K.lookup f25 = some ⟨oc25, od25, .func (PySem.W.fnOf "_law_sum" "_law_sum" (defArgs s_law_sum) (defBody s_law_sum) (defScope s_law_sum) .none kV25 dc25 pm25 an25 cd25 ct25), sl25⟩)
    (c25 : PySem.W.codeIn K cd25 "_law_sum" = true)
    (k25 : PySem.W.keepIn K (.ref f25) = true)
    (a26 : PySem.W.nsIn K mainGlobals "_law_period" = some (some (.ref f26)))
    (l26 : K.lookup f26 = some ⟨oc26, od26, .func (PySem.W.fnOf "_law_period" "_law_period" (defArgs s_law_period) (defBody s_law_period) (defScope s_law_period) .none kV26 dc26 pm26 an26 cd26 ct26), sl26⟩)
    (c26 : PySem.W.codeIn K cd26 "_law_period" = true)
    (k26 : PySem.W.keepIn K (.ref f26) = true)
    (a27 : PySem.W.nsIn K mainGlobals "_law_halves" = some (some (.ref f27)))
    (l27 : K.lookup f27 = some ⟨oc27, od27, .func (PySem.W.fnOf "_law_halves" "_law_halves" (defArgs s_law_halves) (defBody s_law_halves) (defScope s_law_halves) .none kV27 dc27 pm27 an27 cd27 ct27), sl27⟩)
    (c27 : PySem.W.codeIn K cd27 "_law_halves" = true)
    (k27 : PySem.W.keepIn K (.ref f27) = true)
    (a28 : PySem.W.nsIn K mainGlobals "_law_check_small" = some (some (.ref f28)))
    (l28 : K.lookup f28 = some ⟨oc28, od28, .func (PySem.W.fnOf "_law_check_small" "_law_check_small" (defArgs s_law_check_small) (defBody s_law_check_small) (defScope s_law_check_small) .none kV28 dc28 pm28 an28 cd28 ct28), sl28⟩)
    (c28 : PySem.W.codeIn K cd28 "_law_check_small" = true)
    (k28 : PySem.W.keepIn K (.ref f28) = true)
    (a29 : PySem.W.nsIn K mainGlobals "_law_check" = some (some (.ref f29)))
    (l29 : K.lookup f29 = some ⟨oc29, od29, .func (PySem.W.fnOf "_law_check" "_law_check" (defArgs s_law_check) (defBody s_law_check) (defScope s_law_check) .none kV29 dc29 pm29 an29 cd29 ct29), sl29⟩)
    (c29 : PySem.W.codeIn K cd29 "_law_check" = true)
    (k29 : PySem.W.keepIn K (.ref f29) = true)
    (a30 : PySem.W.nsIn K mainGlobals "law" = some (some (.ref f30)))
    (l30 : K.lookup f30 = some ⟨oc30, od30, .func (PySem.W.fnOf "law" "law" (defArgs s_law) (defBody s_law) (defScope s_law) .none kV30 dc30 pm30 an30 cd30 ct30), sl30⟩)
    (c30 : PySem.W.codeIn K cd30 "law" = true)
    (k30 : PySem.W.keepIn K (.ref f30) = true)
    (pg_Table : PySem.W.plainGet K C_Table Str.empty = true)
    (hd_Table : PySem.W.hasDictIn K C_Table = true)
    (po_Table : PySem.W.plainOver K C_Table = true)
    (sa_Table : PySem.W.findIn K (.ref C_Table) "__setattr__" = some (some (.builtin "object.__setattr__")))
    (mk_Table : PySem.W.makesIn K C_Table = true)
    (kc_Table : PySem.W.keepIn K (.ref C_Table) = true)
    (n_Table_rings : PySem.W.findIn K (.ref C_Table) "rings" = some none)
    (v_MAX_RINGS : PySem.W.nsIn K mainGlobals "MAX_RINGS" = some (some (.int 4 t_MAX_RINGS)))
    (z_abs : PySem.W.nsIn K mainGlobals "abs" = some none)
    (z_all : PySem.W.nsIn K mainGlobals "all" = some none)
    (z_bool : PySem.W.nsIn K mainGlobals "bool" = some none)
    (z_int : PySem.W.nsIn K mainGlobals "int" = some none)
    (z_isinstance : PySem.W.nsIn K mainGlobals "isinstance" = some none)
    (z_len : PySem.W.nsIn K mainGlobals "len" = some none)
    (z_list : PySem.W.nsIn K mainGlobals "list" = some none)
    (z_min : PySem.W.nsIn K mainGlobals "min" = some none)
    (z_range : PySem.W.nsIn K mainGlobals "range" = some none)
    (z_set : PySem.W.nsIn K mainGlobals "set" = some none)
    (z_sorted : PySem.W.nsIn K mainGlobals "sorted" = some none)
    (z_tuple : PySem.W.nsIn K mainGlobals "tuple" = some none)
    (z_zip : PySem.W.nsIn K mainGlobals "zip" = some none)
    : ∃ T : TX K mg, mg "law" = some (.ref T.f_law) ∧ ∀ (s : Shared) (v : Value), BindsTo s T.fd_law ⟨[v], []⟩ [("_law_script", v)] := by
  obtain ⟨T, h1, h2⟩ := all_mk X G aC_Table a0 l0 c0 k0 a1 l1 c1 k1 a2 l2 c2 k2 a3 l3 c3 k3 a4 l4 c4 k4 a5 i5 l5 c5 k5 a6 i6 l6 c6 k6 a7 i7 l7 c7 k7 a8 i8 l8 c8 k8 a9 i9 l9 c9 k9 a10 i10 l10 c10 k10 a11 i11 l11 c11 k11 a12 i12 l12 c12 k12 a13 i13 l13 c13 k13 a14 i14 l14 c14 k14 a15 l15 c15 k15 a16 l16 c16 k16 a17 l17 c17 k17 a18 l18 c18 k18 a19 l19 c19 k19 a20 l20 c20 k20 a21 l21 c21 k21 a22 l22 c22 k22 a23 l23 c23 k23 a24 l24 c24 k24 a25 l25 c25 k25 a26 l26 c26 k26 a27 l27 c27 k27 a28 l28 c28 k28 a29 l29 c29 k29 a30 l30 c30 k30 pg_Table hd_Table po_Table sa_Table mk_Table kc_Table n_Table_rings v_MAX_RINGS z_abs z_all z_bool z_int z_isinstance z_len z_list z_min z_range z_set z_sorted z_tuple z_zip
  exact ⟨T, T.m_law, fun s v => by rw [h2]; exact .of_eq rfl⟩
end CS
open PySem PySem.W PyProof.Rows in
set_option maxRecDepth 100000 in
set_option maxHeartbeats 0 in
theorem PySem.Challenge.cw_calledseats_k02_orders_and_halves_holds : PySem.Challenge.rw_calledseats_k02_orders_and_halves.Holds := by
  w_on; o_law; k_head; (case hw => w_witness2)
  k_fill
  refine L2.walk_of (l := PySem.Challenge.rw_calledseats_k02_orders_and_halves) (n := 63) (k := 7) (x := "_law_script") (CX := fun _ => L2.CX0) (sp := fun w => CS.sp_law _) rfl (by decide) rfl ⟨rfl, by decide, by decide⟩ (fun w h Y => PySem.W.kIn_of Y) ?F (fun _ _ a ns hl _ hS => ⟨a, ns, rfl, hS, hl, fun _ => rfl⟩) (fun _ _ _ _ _ h => h)
  case F =>
    intro w mg fa h KX G hmg
    obtain ⟨T, e1, e2⟩ : ∃ T : CS.TX _ mg, mg "law" = some (.ref T.f_law) ∧ ∀ (s : Shared) (v : Value), BindsTo s T.fd_law ⟨[v], []⟩ [("_law_script", v)] := by
      refine' CS.use_mk KX G ?aC_Table ?a0 ?l0 ?c0 ?k0 ?a1 ?l1 ?c1 ?k1 ?a2 ?l2 ?c2 ?k2 ?a3 ?l3 ?c3 ?k3 ?a4 ?l4 ?c4 ?k4 ?a5 ?i5 ?l5 ?c5 ?k5 ?a6 ?i6 ?l6 ?c6 ?k6 ?a7 ?i7 ?l7 ?c7 ?k7 ?a8 ?i8 ?l8 ?c8 ?k8 ?a9 ?i9 ?l9 ?c9 ?k9 ?a10 ?i10 ?l10 ?c10 ?k10 ?a11 ?i11 ?l11 ?c11 ?k11 ?a12 ?i12 ?l12 ?c12 ?k12 ?a13 ?i13 ?l13 ?c13 ?k13 ?a14 ?i14 ?l14 ?c14 ?k14 ?a15 ?l15 ?c15 ?k15 ?a16 ?l16 ?c16 ?k16 ?a17 ?l17 ?c17 ?k17 ?a18 ?l18 ?c18 ?k18 ?a19 ?l19 ?c19 ?k19 ?a20 ?l20 ?c20 ?k20 ?a21 ?l21 ?c21 ?k21 ?a22 ?l22 ?c22 ?k22 ?a23 ?l23 ?c23 ?k23 ?a24 ?l24 ?c24 ?k24 ?a25 ?l25 ?c25 ?k25 ?a26 ?l26 ?c26 ?k26 ?a27 ?l27 ?c27 ?k27 ?a28 ?l28 ?c28 ?k28 ?a29 ?l29 ?c29 ?k29 ?a30 ?l30 ?c30 ?k30 ?pg_Table ?hd_Table ?po_Table ?sa_Table ?mk_Table ?kc_Table ?n_Table_rings ?v_MAX_RINGS ?z_abs ?z_all ?z_bool ?z_int ?z_isinstance ?z_len ?z_list ?z_min ?z_range ?z_set ?z_sorted ?z_tuple ?z_zip
      (case aC_Table => k_is)
      (case a0 => k_is)
      (case l0 => k_is)
      (case c0 => k_is)
      (case k0 => k_is)
      (case a1 => k_is)
      (case l1 => k_is)
      (case c1 => k_is)
      (case k1 => k_is)
      (case a2 => k_is)
      (case l2 => k_is)
      (case c2 => k_is)
      (case k2 => k_is)
      (case a3 => k_is)
      (case l3 => k_is)
      (case c3 => k_is)
      (case k3 => k_is)
      (case a4 => k_is)
      (case l4 => k_is)
      (case c4 => k_is)
      (case k4 => k_is)
      (case a5 => k_is)
      (case i5 => k_is)
      (case l5 => k_is)
      (case c5 => k_is)
      (case k5 => k_is)
      (case a6 => k_is)
      (case i6 => k_is)
      (case l6 => k_is)
      (case c6 => k_is)
      (case k6 => k_is)
      (case a7 => k_is)
      (case i7 => k_is)
      (case l7 => k_is)
      (case c7 => k_is)
      (case k7 => k_is)
      (case a8 => k_is)
      (case i8 => k_is)
      (case l8 => k_is)
      (case c8 => k_is)
      (case k8 => k_is)
      (case a9 => k_is)
      (case i9 => k_is)
      (case l9 => k_is)
      (case c9 => k_is)
      (case k9 => k_is)
      (case a10 => k_is)
      (case i10 => k_is)
      (case l10 => k_is)
      (case c10 => k_is)
      (case k10 => k_is)
      (case a11 => k_is)
      (case i11 => k_is)
      (case l11 => k_is)
      (case c11 => k_is)
      (case k11 => k_is)
      (case a12 => k_is)
      (case i12 => k_is)
      (case l12 => k_is)
      (case c12 => k_is)
      (case k12 => k_is)
      (case a13 => k_is)
      (case i13 => k_is)
      (case l13 => k_is)
      (case c13 => k_is)
      (case k13 => k_is)
      (case a14 => k_is)
      (case i14 => k_is)
      (case l14 => k_is)
      (case c14 => k_is)
      (case k14 => k_is)
      (case a15 => k_is)
      (case l15 => k_is)
      (case c15 => k_is)
      (case k15 => k_is)
      (case a16 => k_is)
      (case l16 => k_is)
      (case c16 => k_is)
      (case k16 => k_is)
      (case a17 => k_is)
      (case l17 => k_is)
      (case c17 => k_is)
      (case k17 => k_is)
      (case a18 => k_is)
      (case l18 => k_is)
      (case c18 => k_is)
      (case k18 => k_is)
      (case a19 => k_is)
      (case l19 => k_is)
      (case c19 => k_is)
      (case k19 => k_is)
      (case a20 => k_is)
      (case l20 => k_is)
      (case c20 => k_is)
      (case k20 => k_is)
      (case a21 => k_is)
      (case l21 => k_is)
      (case c21 => k_is)
      (case k21 => k_is)
      (case a22 => k_is)
      (case l22 => k_is)
      (case c22 => k_is)
      (case k22 => k_is)
      (case a23 => k_is)
      (case l23 => k_is)
      (case c23 => k_is)
      (case k23 => k_is)
      (case a24 => k_is)
      (case l24 => k_is)
      (case c24 => k_is)
      (case k24 => k_is)
      (case a25 => k_is)
      (case l25 => k_is)
      (case c25 => k_is)
      (case k25 => k_is)
      (case a26 => k_is)
      (case l26 => k_is)
      (case c26 => k_is)
      (case k26 => k_is)
      (case a27 => k_is)
      (case l27 => k_is)
      (case c27 => k_is)
      (case k27 => k_is)
      (case a28 => k_is)
      (case l28 => k_is)
      (case c28 => k_is)
      (case k28 => k_is)
      (case a29 => k_is)
      (case l29 => k_is)
      (case c29 => k_is)
      (case k29 => k_is)
      (case a30 => k_is)
      (case l30 => k_is)
      (case c30 => k_is)
      (case k30 => k_is)
      (case pg_Table => k_is)
      (case hd_Table => k_is)
      (case po_Table => k_is)
      (case sa_Table => k_is)
      (case mk_Table => k_is)
      (case kc_Table => k_is)
      (case n_Table_rings => k_is)
      (case v_MAX_RINGS => k_is)
      (case z_abs => k_is)
      (case z_all => k_is)
      (case z_bool => k_is)
      (case z_int => k_is)
      (case z_isinstance => k_is)
      (case z_len => k_is)
      (case z_list => k_is)
      (case z_min => k_is)
      (case z_range => k_is)
      (case z_set => k_is)
      (case z_sorted => k_is)
      (case z_tuple => k_is)
      (case z_zip => k_is)
    have e := hmg.symm.trans e1
    cases e
    exact ⟨T.fd_law, e2, fun base _ _ => CS.ok_law T⟩
