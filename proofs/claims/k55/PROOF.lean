import PyProof.Rows.All
import Wide.All
import OpenK.AllK
import Wide.FinOn
import HandS.ForMost
import HandS.Zip
import HandS.TupAny
import HandS.TupMul
import HandS.Deep
import HandS.Style
import HandS.SetFor
import HandS.Strs
import HandS.Walk
import HandS.IsInst
import HandS.Conv
import HandS.Wide
import HandS.WideBits
import HandS.Evl
import HandS.MakeKwOnly
import KE.GoesMore
import KE.GoesEnumKw
import KE.KBits
import HandS.ExcInit
import HandS.ExcField
import HandS.ExcOwn
import HandS.WordsExc
import OpenK.XHead
import PySem.Challenge.RW_calledseats_k55_sums_checked
set_option Elab.async false
set_option linter.all false
set_option maxRecDepth 100000
set_option maxHeartbeats 4000000


namespace CZ
open PySem PySem.Spec PyProof.Rows L2
open PySem.Sem (wp)
/-- one draw of a zip: strict or not -/
def zdraw (b : Bool) (it : Value) : Sem (Option Value) := if b = true then Builtin.SmallTypes.nextOrEnd it else (Builtin.SmallTypes.nextOf it >>= fun x => pure (some x))
/-- a zip object: f0 what it has handed out, b its strictness -/
abbrev ZipO (h : Heap) (z TI TO : Addr) (f0 : Value) (b : Bool) : Prop := h.get? z = some { cls := .type "zip", data := .fields #[f0, .bool false, .bool b, .ref TI, .ref TO] }
abbrev TupO (h : Heap) (T : Addr) (vs : Array Value) : Prop := h.get? T = some { cls := .type "tuple", data := .seq vs }
theorem val_b (b : Bool) : (Value.bool b == Value.bool true) = b := by cases b <;> rfl
section
variable {prog : Program} {w : World} {A : Around} {E : Value → Shared → Prop} {s : Shared} {b : Bool}
theorem zdraw_item {it : Addr} {fp : List Addr} {n i : Nat} {P : Nat → Value → Prop} {St : Nat → Heap → Prop} {Q : Option Value → Shared → Prop} (D : Draws prog w A it fp n P St) (hi : i < n) (st : St i s.heap)
    (hQ : ∀ x h' tk, P i x → St (i + 1) h' → Heap.SameBut it s.heap h' → Q (some x) { s with heap := h', toks := tk }) : wpAny (model prog w) A (zdraw b (.ref it)) Q E s := by
  cases b with
  | false => exact wpAny_bind (m := Builtin.SmallTypes.nextOf (.ref it)) (D.item i s _ _ hi st fun x h' tk p st' sb => wpAny_pure (hQ x h' tk p st' sb))
  | true =>
    show wpAny _ _ (Builtin.SmallTypes.nextOrEnd (.ref it)) _ _ _
    unfold Builtin.SmallTypes.nextOrEnd
    exact wpAny_bind (wpAny_attempt (D.item i s _ _ hi st fun x h' tk p st' sb => wpAny_pure (hQ x h' tk p st' sb)))
theorem zend_strict {it : Addr} {fp : List Addr} {n : Nat} {P : Nat → Value → Prop} {St : Nat → Heap → Prop} {Q : Option Value → Shared → Prop} (D : Draws prog w A it fp n P St) (st : St n s.heap)
    (hQ : ∀ h', Heap.ExtBut it s.heap h' → Q none { s with heap := h' }) : wpAny (model prog w) A (Builtin.SmallTypes.nextOrEnd (.ref it)) Q E s := by
  unfold Builtin.SmallTypes.nextOrEnd
  refine wpAny_bind (wpAny_attempt (D.done s _ _ st fun h' e eb he => ?_))
  obtain ⟨o, ho, hc⟩ := he
  exact wpAny_bind (wpAny_isInstance (T := "StopIteration") (b := true) ⟨o, ho, hc⟩ isSubtype_stop (wpAny_pure (hQ h' eb)))
theorem upd_tup {T : Addr} {vs : Array Value} {x : Value} {k : Nat} {Q : Unit → Shared → Prop} (hT : TupO s.heap T vs) (hz : vs.size ≤ 8)
    (h : ∀ h', TupO h' T (vs.setIfInBounds k x) → Heap.SameBut T s.heap h' → Q () { s with heap := h' }) : wpAny (model prog w) A (updateSeq T (·.setIfInBounds k x)) Q E s := by
  have z8 : (8 : Nat) ≤ sizeLine := by decide
  refine wpAny_updateSeq hT rfl (h _ ?_ (Heap.SameBut.update ..)) (Nat.le_trans hz z8) (by rw [Array.size_setIfInBounds]; exact Nat.le_succ_of_le (Nat.le_trans hz z8))
  unfold TupO
  rw [Heap.get?_update_self _ hT rfl]
  simp [Obj.mapSeq]
theorem iter_zip {z TI TO : Addr} {f0 : Value} {Q : Value → Shared → Prop} (hz : ZipO s.heap z TI TO f0 b) (h : Q (.ref z) s) : wpAny (model prog w) A (pyIter (.ref z)) Q E s := by
  have hT : s.TypeIs (.ref z) "zip" := ⟨_, hz, rfl⟩
  exact wpAny_pyIter_slot hT F.slot_zip_iter (wpAny_call_entry F.slot_zip_iter hT F.entry_zip_iter (wpAny_pure ⟨_, rfl, "zip", _, hT, F.slot_zip_next.lookup, h⟩) (F.args_zip_iter_1 _))
/-- the tuple that was handed out is let go -/
theorem go_zip {elts : List Expr} {x1} {pos : Pos} {z TI TO T : Addr} {Q : Unit → Shared → Prop} (hz : ZipO s.heap z TI TO (rawInt T) b)
    (hQ : ∀ h', ZipO h' z TI TO .none b → Heap.SameBut z s.heap h' → Q () { s with heap := h' }) : wpAny (model prog w) A (letOwnedTupleGo (.Tuple elts x1 pos) (.ref z) (.ref T)) Q E s := by
  unfold letOwnedTupleGo
  refine wpAny_bind (wpAny_load hz ?_)
  show wpAny _ _ (ite _ _ _) Q E s
  rw [if_pos (by simp)]
  exact wpAny_bind (wpAny_rule (wpAny_setField_rec hz (by simp) fun h' hz' hs' => hQ h' hz' hs'))
/-- the StopIteration that a zip ends by -/
theorem stop_it {Q : Fin → Shared → Prop} (hh : A.handled = none) (hE : ∀ h' e, (∀ c o, s.heap.get? c = some o → h'.get? c = some o) → (∃ o, h'.get? e = some o ∧ o.cls = .type "StopIteration") → E (.ref e) { s with heap := h' }) :
    wpAny (model prog w) A (PySem.Builtin.SmallTypes.stopIteration : Sem Fin) Q E s := by
  unfold PySem.Builtin.SmallTypes.stopIteration
  show wpAny _ _ (newExc (.type "StopIteration") [] >>= _) _ _ _
  refine wpAny_bind ?_
  simp only [newExc, newTuple]
  refine wpAny_bind (wpAny_newObj_type ?_ (by size_fits))
  refine wpAny_bind (m := firstArgMember _ _) (wpAny_of_eq (a := Value.none) (by first | rfl | (simp only [firstArgMember]; rfl)) ?_)
  refine wpAny_newObj_type ?_ (by size_fits)
  simp only [raiseNew]
  refine wpAny_bind (wpAny_handled ?_)
  rw [hh]
  exact wpAny_bind (wpAny_pure (wpAny_throw (hE _ _ (fun c o e => Heap.get?_push_of_some _ (Heap.get?_push_of_some _ e)) ⟨_, Heap.get?_push_size _ rfl, rfl⟩)))
end
end CZ

namespace CZ
open PySem PySem.Spec PyProof.Rows L2
open PySem.Sem (wp)
/-- the cells of a zip over 2 iterators lie apart -/
structure Sep2 (z TI TO i1 i2 : Addr) (fp1 fp2 : List Addr) : Prop where
  zTO : z ≠ TO
  zTI : z ≠ TI
  TOTI : TO ≠ TI
  m1 : i1 ∈ fp1
  z1 : z ∉ fp1
  T1 : TO ∉ fp1
  I1 : TI ≠ i1
  s2_1 : i2 ∉ fp1
  m2 : i2 ∈ fp2
  z2 : z ∉ fp2
  T2 : TO ∉ fp2
  I2 : TI ≠ i2
  s1_2 : i1 ∉ fp2
section
variable {prog : Program} {w : World} {A : Around} {E : Value → Shared → Prop} {s : Shared} {b : Bool}
theorem next_item2 {z TI TO i1 i2 : Addr} {fp1 fp2 : List Addr} {n1 n2 i : Nat} {P1 P2 : Nat → Value → Prop} {St1 St2 : Nat → Heap → Prop} {a1 a2 : Value} {Q : Value → Shared → Prop} (S : Sep2 z TI TO i1 i2 fp1 fp2) (D1 : Draws prog w A i1 fp1 n1 P1 St1) (D2 : Draws prog w A i2 fp2 n2 P2 St2)
    (hz : ZipO s.heap z TI TO .none b) (hTI : TupO s.heap TI #[.ref i1, .ref i2]) (hTO : TupO s.heap TO #[a1, a2]) (st1 : St1 i s.heap) (st2 : St2 i s.heap) (hi1 : i < n1) (hi2 : i < n2)
    (hQ : ∀ x1 x2 h' tk, P1 i x1 → P2 i x2 → ZipO h' z TI TO (rawInt s.heap.objs.size) b → TupO h' TO #[x1, x2] → St1 (i + 1) h' → St2 (i + 1) h' → TupO h' s.heap.objs.size #[x1, x2] →
      (∀ c o, c ≠ z → c ≠ TO → c ≠ i1 → c ≠ i2 → s.heap.get? c = some o → h'.get? c = some o) → Q (.ref s.heap.objs.size) { s with heap := h', toks := tk }) :
    wpAny (model prog w) A (Builtin.«zip.__next__» ⟨[.ref z], []⟩) (fun fin s' => ∃ v, fin = .done (.ret v) ∧ Q v s') E s := by
  obtain ⟨hp, g, d, tk0, os⟩ := s
  refine wpAny_bind (m := field (.ref z) 2) (wpAny_field hz rfl (x := .bool b) rfl ?_)
  refine wpAny_bind (m := field (.ref z) 3) (wpAny_field hz rfl (x := .ref TI) rfl ?_)
  refine wpAny_bind (wpAny_seqItems hTI rfl ?_)
  show wpAny _ _ (Builtin.SmallTypes.ownedTupleIsFree (.ref z) >>= _) _ _ _
  rw [val_b]
  refine wpAny_bind ?_
  unfold Builtin.SmallTypes.ownedTupleIsFree
  refine wpAny_bind (wpAny_field hz rfl (x := .none) rfl (wpAny_pure ?_))
  simp only [if_true]
  refine wpAny_bind (wpAny_rule (wpAny_bind (wpAny_field hz rfl (x := .ref TO) rfl ?_)))
  refine wpAny_bind (wpAny_setField_rec hz (by simp) fun g0 hz0 hs0 => wpAny_bind ?_)
  replace hs0 : Heap.SameBut z hp g0 := hs0
  replace hz0 : ZipO g0 z TI TO .ellipsis b := hz0
  have hT0 : TupO g0 TO #[a1, a2] := hs0.extBut _ _ S.zTO.symm hTO
  have t1_0 : St1 i g0 := D1.frame _ _ _ st1 fun c hc o e => hs0.extBut c o (fun q => S.z1 (q ▸ hc)) e
  have t2_0 : St2 i g0 := D2.frame _ _ _ st2 fun c hc o e => hs0.extBut c o (fun q => S.z2 (q ▸ hc)) e
  have k0 : ∀ c o, c ≠ z → c ≠ TO → c ≠ i1 → c ≠ i2 → hp.get? c = some o → g0.get? c = some o := fun c o q0 _ _ _ e => hs0.extBut c o q0 e
  simp only [List.zipIdx_cons, List.zipIdx_nil, List.forIn_cons, List.forIn_nil]
  refine wpAny_bind (wpAny_bind (wpAny_onRaise (m := zdraw b (.ref i1)) (zdraw_item (s := ⟨g0, g, d, tk0, os⟩) D1 hi1 t1_0 fun x1 d1 tk1 p1 n1 hd1 => ?_)))
  replace hd1 : Heap.SameBut i1 g0 d1 := hd1
  have hU1 : TupO d1 TO #[a1, a2] := hd1.extBut _ _ (fun q => S.T1 (q ▸ S.m1)) hT0
  refine wpAny_bind (wpAny_seqItems (s := ⟨d1, g, d, tk1, os⟩) hU1 rfl ?_)
  refine wpAny_bind (upd_tup (s := ⟨d1, g, d, tk1, os⟩) hU1 (by simp) fun g1 hT1 hs1 => ?_)
  replace hs1 : Heap.SameBut TO d1 g1 := hs1
  replace hT1 : TupO g1 TO #[x1, a2] := hT1
  have hz1 : ZipO g1 z TI TO .ellipsis b := hs1.extBut _ _ S.zTO (hd1.extBut _ _ (fun q => S.z1 (q ▸ S.m1)) hz0)
  have t1_1 : St1 (i + 1) g1 := D1.frame _ _ _ n1 fun c hc o e => hs1.extBut c o (fun q => S.T1 (q ▸ hc)) e
  have t2_1 : St2 i g1 := D2.frame _ _ _ t2_0 fun c hc o e => hs1.extBut c o (fun q => S.T2 (q ▸ hc)) (hd1.extBut c o (fun q => S.s1_2 (q ▸ hc)) e)
  have k1 : ∀ c o, c ≠ z → c ≠ TO → c ≠ i1 → c ≠ i2 → hp.get? c = some o → g1.get? c = some o := fun c o qz qT q1 q2 e => hs1.extBut c o qT (hd1.extBut c o q1 (k0 c o qz qT q1 q2 e))
  have e1 : g1.objs.size = g0.objs.size := by rw [hs1.1, hd1.1]
  refine wpAny_bind (wpAny_letGo (wpAny_pure ?_))
  refine wpAny_bind (wpAny_bind (wpAny_onRaise (m := zdraw b (.ref i2)) (zdraw_item (s := ⟨g1, g, d, tk1, os⟩) D2 hi2 t2_1 fun x2 d2 tk2 p2 n2 hd2 => ?_)))
  replace hd2 : Heap.SameBut i2 g1 d2 := hd2
  have hU2 : TupO d2 TO #[x1, a2] := hd2.extBut _ _ (fun q => S.T2 (q ▸ S.m2)) hT1
  refine wpAny_bind (wpAny_seqItems (s := ⟨d2, g, d, tk2, os⟩) hU2 rfl ?_)
  refine wpAny_bind (upd_tup (s := ⟨d2, g, d, tk2, os⟩) hU2 (by simp) fun g2 hT2 hs2 => ?_)
  replace hs2 : Heap.SameBut TO d2 g2 := hs2
  replace hT2 : TupO g2 TO #[x1, x2] := hT2
  have hz2 : ZipO g2 z TI TO .ellipsis b := hs2.extBut _ _ S.zTO (hd2.extBut _ _ (fun q => S.z2 (q ▸ S.m2)) hz1)
  have t1_2 : St1 (i + 1) g2 := D1.frame _ _ _ t1_1 fun c hc o e => hs2.extBut c o (fun q => S.T1 (q ▸ hc)) (hd2.extBut c o (fun q => S.s2_1 (q ▸ hc)) e)
  have t2_2 : St2 (i + 1) g2 := D2.frame _ _ _ n2 fun c hc o e => hs2.extBut c o (fun q => S.T2 (q ▸ hc)) e
  have k2 : ∀ c o, c ≠ z → c ≠ TO → c ≠ i1 → c ≠ i2 → hp.get? c = some o → g2.get? c = some o := fun c o qz qT q1 q2 e => hs2.extBut c o qT (hd2.extBut c o q2 (k1 c o qz qT q1 q2 e))
  have e2 : g2.objs.size = g1.objs.size := by rw [hs2.1, hd2.1]
  refine wpAny_bind (wpAny_letGo (wpAny_pure ?_))
  refine wpAny_pure ?_
  refine wpAny_bind (wpAny_seqItems (s := ⟨g2, g, d, tk2, os⟩) hT2 rfl ?_)
  refine wpAny_bind (wpAny_newTuple ?_)
  have hsz : g2.objs.size = hp.objs.size := by rw [e2, e1, hs0.1]
  have hlt : z < g2.objs.size := Heap.lt_size hz2
  refine wpAny_bind ?_
  unfold Builtin.SmallTypes.ownedTupleHandOut
  have hy : ZipO (g2.push { cls := .type "tuple", data := .seq #[x1, x2] }) z TI TO .ellipsis b := Heap.get?_push_of_some _ hz2
  refine wpAny_bind (wpAny_setField_rec hy (by simp) fun u1 hu1 hv1 => wpAny_setField_rec hu1 (by simp) fun u2 hu2 hv2 => ?_)
  have up : ∀ c o, c ≠ z → g2.get? c = some o → u2.get? c = some o := fun c o q e => hv2.extBut c o q (hv1.extBut c o q (Heap.get?_push_of_some _ e))
  have hN : TupO u2 g2.objs.size #[x1, x2] := hv2.extBut _ _ (Nat.ne_of_gt hlt) (hv1.extBut _ _ (Nat.ne_of_gt hlt) (Heap.get?_push_size _ rfl))
  have hZ : ZipO u2 z TI TO (rawInt g2.objs.size) b := hu2
  rw [hsz] at hN hZ
  refine wpAny_pure ⟨_, rfl, ?_⟩
  show Q (.ref g2.objs.size) ⟨u2, g, d, tk2, os⟩
  rw [hsz]
  exact hQ x1 x2 u2 tk2 p1 p2 hZ (up _ _ S.zTO.symm hT2) (D1.frame _ _ _ t1_2 fun c hc o e => up c o (fun q => S.z1 (q ▸ hc)) e) (D2.frame _ _ _ t2_2 fun c hc o e => up c o (fun q => S.z2 (q ▸ hc)) e) hN fun c o qz qT q1 q2 e => up c o qz (k2 c o qz qT q1 q2 e)
theorem next_end2 {z TI TO i1 i2 : Addr} {fp1 fp2 : List Addr} {n : Nat} {P1 P2 : Nat → Value → Prop} {St1 St2 : Nat → Heap → Prop} {a1 a2 : Value} {Q : Fin → Shared → Prop} (hh : A.handled = none) (S : Sep2 z TI TO i1 i2 fp1 fp2) (D1 : Draws prog w A i1 fp1 n P1 St1) (D2 : Draws prog w A i2 fp2 n P2 St2)
    (hz : ZipO s.heap z TI TO .none b) (hTI : TupO s.heap TI #[.ref i1, .ref i2]) (hTO : TupO s.heap TO #[a1, a2]) (st1 : St1 n s.heap) (st2 : St2 n s.heap)
    (hE : ∀ h' e, (∀ c o, c ≠ z → c ≠ TO → c ≠ i1 → c ≠ i2 → s.heap.get? c = some o → h'.get? c = some o) → (∃ o, h'.get? e = some o ∧ o.cls = .type "StopIteration") → E (.ref e) { s with heap := h' }) :
    wpAny (model prog w) A (Builtin.«zip.__next__» ⟨[.ref z], []⟩) Q E s := by
  obtain ⟨hp, g, d, tk0, os⟩ := s
  refine wpAny_bind (m := field (.ref z) 2) (wpAny_field hz rfl (x := .bool b) rfl ?_)
  refine wpAny_bind (m := field (.ref z) 3) (wpAny_field hz rfl (x := .ref TI) rfl ?_)
  refine wpAny_bind (wpAny_seqItems hTI rfl ?_)
  show wpAny _ _ (Builtin.SmallTypes.ownedTupleIsFree (.ref z) >>= _) _ _ _
  rw [val_b]
  refine wpAny_bind ?_
  unfold Builtin.SmallTypes.ownedTupleIsFree
  refine wpAny_bind (wpAny_field hz rfl (x := .none) rfl (wpAny_pure ?_))
  simp only [if_true]
  refine wpAny_bind (wpAny_rule (wpAny_bind (wpAny_field hz rfl (x := .ref TO) rfl ?_)))
  refine wpAny_bind (wpAny_setField_rec hz (by simp) fun g0 hz0 hs0 => wpAny_bind ?_)
  replace hs0 : Heap.SameBut z hp g0 := hs0
  replace hz0 : ZipO g0 z TI TO .ellipsis b := hz0
  have t1_0 : St1 n g0 := D1.frame _ _ _ st1 fun c hc o e => hs0.extBut c o (fun q => S.z1 (q ▸ hc)) e
  have t2_0 : St2 n g0 := D2.frame _ _ _ st2 fun c hc o e => hs0.extBut c o (fun q => S.z2 (q ▸ hc)) e
  simp only [List.zipIdx_cons, List.zipIdx_nil, List.forIn_cons, List.forIn_nil]
  refine wpAny_bind (wpAny_bind (wpAny_onRaise ?_))
  cases b with
  | false =>
    refine wpAny_bind (m := Builtin.SmallTypes.nextOf (.ref i1)) (D1.done ⟨g0, g, d, tk0, os⟩ _ _ t1_0 fun y e hy he => ?_)
    replace hy : Heap.ExtBut i1 g0 y := hy
    obtain ⟨oe, hoe, hce⟩ := he
    replace hoe : y.get? e = some oe := hoe
    have hzy : ZipO y z TI TO .ellipsis false := hy _ _ (fun q => S.z1 (q ▸ S.m1)) hz0
    have hez : e ≠ z := fun x => by subst x; rw [hzy] at hoe; cases hoe; simp at hce
    refine wpAny_setField_rec (s := ⟨y, g, d, tk0, os⟩) hzy (by simp) fun y2 _ hv => ?_
    replace hv : Heap.SameBut z y y2 := hv
    exact hE y2 e (fun c o qz qT q1 q2 x => hv.extBut c o qz (hy c o q1 (hs0.extBut c o qz x))) ⟨oe, hv.extBut _ _ hez hoe, hce⟩
  | true =>
    refine zend_strict (s := ⟨g0, g, d, tk0, os⟩) D1 t1_0 fun y hy => ?_
    replace hy : Heap.ExtBut i1 g0 y := hy
    have hzy : ZipO y z TI TO .ellipsis true := hy _ _ (fun q => S.z1 (q ▸ S.m1)) hz0
    have t2_1 : St2 n y := D2.frame _ _ _ t2_0 fun c hc o e => hy c o (fun q => S.s1_2 (q ▸ hc)) e
    refine wpAny_bind (wpAny_setField_rec (s := ⟨y, g, d, tk0, os⟩) hzy (by simp) fun y1 _ hv1 => ?_)
    replace hv1 : Heap.SameBut z y y1 := hv1
    have r2_1 : St2 n y1 := D2.frame _ _ _ t2_1 fun c hc o e => hv1.extBut c o (fun q => S.z2 (q ▸ hc)) e
    have k1 : ∀ c o, c ≠ z → c ≠ TO → c ≠ i1 → c ≠ i2 → hp.get? c = some o → y1.get? c = some o := fun c o qz qT q1 q2 e => hv1.extBut c o qz (hy c o q1 (hs0.extBut c o qz e))
    refine wpAny_bind ?_
    refine wpAny_bind ?_
    simp only [List.drop_succ_cons, List.drop_zero, List.zipIdx_cons, List.zipIdx_nil, List.forIn_cons, List.forIn_nil]
    refine wpAny_bind (wpAny_bind (zend_strict (s := ⟨y1, g, d, tk0, os⟩) D2 r2_1 fun y2 hy2 => ?_))
    replace hy2 : Heap.ExtBut i2 y1 y2 := hy2
    have k2 : ∀ c o, c ≠ z → c ≠ TO → c ≠ i1 → c ≠ i2 → hp.get? c = some o → y2.get? c = some o := fun c o qz qT q1 q2 e => hy2 c o q2 (k1 c o qz qT q1 q2 e)
    refine wpAny_pure ?_
    refine wpAny_pure ?_
    exact wpAny_bind (wpAny_rule (stop_it (s := ⟨y2, g, d, tk0, os⟩) hh fun h2 e kk he => hE h2 e (fun c o qz qT q1 q2 x => kk c o (k2 c o qz qT q1 q2 x)) he))
theorem py_item2 {z TI TO i1 i2 : Addr} {fp1 fp2 : List Addr} {n1 n2 i : Nat} {P1 P2 : Nat → Value → Prop} {St1 St2 : Nat → Heap → Prop} {a1 a2 : Value} {Q : Option Value → Shared → Prop} (S : Sep2 z TI TO i1 i2 fp1 fp2) (D1 : Draws prog w A.in1 i1 fp1 n1 P1 St1) (D2 : Draws prog w A.in1 i2 fp2 n2 P2 St2)
    (hz : ZipO s.heap z TI TO .none b) (hTI : TupO s.heap TI #[.ref i1, .ref i2]) (hTO : TupO s.heap TO #[a1, a2]) (st1 : St1 i s.heap) (st2 : St2 i s.heap) (hi1 : i < n1) (hi2 : i < n2)
    (hQ : ∀ x1 x2 h' tk, P1 i x1 → P2 i x2 → ZipO h' z TI TO (rawInt s.heap.objs.size) b → TupO h' TO #[x1, x2] → St1 (i + 1) h' → St2 (i + 1) h' → TupO h' s.heap.objs.size #[x1, x2] →
      (∀ c o, c ≠ z → c ≠ TO → c ≠ i1 → c ≠ i2 → s.heap.get? c = some o → h'.get? c = some o) → Q (some (.ref s.heap.objs.size)) { s with heap := h', toks := tk }) : wpAny (model prog w) A (pyNext (.ref z)) Q E s := by
  have hT : s.TypeIs (.ref z) "zip" := ⟨_, hz, rfl⟩
  unfold pyNext
  refine wpAny_bind (wpAny_attempt (wpAny_callSpecial?_slot (name := Str.ofString "__next__") hT F.slot_zip_next (wpAny_call_entry F.slot_zip_next hT F.entry_zip_next ?_ (F.args_zip_next_1 _))))
  exact next_item2 S D1 D2 hz hTI hTO st1 st2 hi1 hi2 fun x1 x2 h2 tk p1 p2 q1 q2 u1 u2 q3 q4 => wpAny_pure (hQ x1 x2 h2 tk p1 p2 q1 q2 u1 u2 q3 q4)
theorem py_end2 {z TI TO i1 i2 : Addr} {fp1 fp2 : List Addr} {n : Nat} {P1 P2 : Nat → Value → Prop} {St1 St2 : Nat → Heap → Prop} {a1 a2 : Value} {Q : Option Value → Shared → Prop} (hh : A.handled = none) (S : Sep2 z TI TO i1 i2 fp1 fp2) (D1 : Draws prog w A.in1 i1 fp1 n P1 St1) (D2 : Draws prog w A.in1 i2 fp2 n P2 St2)
    (hz : ZipO s.heap z TI TO .none b) (hTI : TupO s.heap TI #[.ref i1, .ref i2]) (hTO : TupO s.heap TO #[a1, a2]) (st1 : St1 n s.heap) (st2 : St2 n s.heap)
    (hQ : ∀ h', (∀ c o, c ≠ z → c ≠ TO → c ≠ i1 → c ≠ i2 → s.heap.get? c = some o → h'.get? c = some o) → Q none { s with heap := h' }) : wpAny (model prog w) A (pyNext (.ref z)) Q E s := by
  have hT : s.TypeIs (.ref z) "zip" := ⟨_, hz, rfl⟩
  unfold pyNext
  refine wpAny_bind (wpAny_attempt (wpAny_callSpecial?_slot (name := Str.ofString "__next__") hT F.slot_zip_next (wpAny_call_entry F.slot_zip_next hT F.entry_zip_next ?_ (F.args_zip_next_1 _))))
  refine next_end2 (A := A.in1) hh S D1 D2 hz hTI hTO st1 st2 fun h2 e kk he => ?_
  obtain ⟨o, ho, hc⟩ := he
  exact wpAny_bind (wpAny_isInstance (T := "StopIteration") (b := true) ⟨o, ho, hc⟩ isSubtype_stop (wpAny_pure (hQ _ kk)))
theorem typeCall_strict2 (v1 v2 x : Value) : checkTypeCall "zip" ⟨[v1, v2], [(Str.ofString "strict", x)]⟩ = pure () := by kernel_rfl
theorem newCall_strict2 (v1 v2 x : Value) : checkBuiltinCall "zip.__new__" ⟨[.type "zip", v1, v2], [(Str.ofString "strict", x)]⟩ = pure () := by kernel_rfl
theorem initArgs_strict2 (obj v1 v2 x : Value) : argsOk "object.__init__" ⟨[obj, v1, v2], [(Str.ofString "strict", x)]⟩ := by unfold argsOk; kernel_rfl
abbrev sT2 (h : Heap) (o1 o2 : Obj) : Heap := (((h.push o1).push o2).push { cls := .type "tuple", data := .seq #[.ref h.objs.size, .ref (h.push o1).objs.size] })
abbrev sO2 (h : Heap) (o1 o2 : Obj) : Heap := (sT2 h o1 o2).push { cls := .type "tuple", data := .seq #[.none, .none] }
abbrev sZ2 (h : Heap) (o1 o2 : Obj) : Heap := (sO2 h o1 o2).push { cls := .type "zip", data := .fields #[.none, .bool false, .bool true, .ref ((h.push o1).push o2).objs.size, .ref (sT2 h o1 o2).objs.size] }
theorem meets_strict2 {v1 v2 : Value} {o1 o2 : Obj} {G1 G2 : Heap → Prop} (B1 : Begins v1 o1 G1) (B2 : Begins v2 o2 G2) :
    Meets (Builtin.«zip.__new__» ⟨[.type "zip", v1, v2], [(Str.ofString "strict", .bool true)]⟩) (fun _ R s => (G1 s.heap ∧ G2 s.heap) ∧ R (.ok (.ret (.ref (sO2 s.heap o1 o2).objs.size))) { s with heap := (sZ2 s.heap o1 o2) }) :=
  .of_wp fun prog w A R s h => by
    obtain ⟨hp, g, d, tk, os⟩ := s
    obtain ⟨⟨h1, h2⟩, h⟩ := h
    have hsub := sub_zip
    have e1 : (Str.ofString "strict" != ("strict" : Str)) = false := by decide +kernel
    have w1 : ∀ {A' : Around} {E : Value → Shared → Prop} {Q : Value → Shared → Prop}, Q (.ref hp.objs.size) ⟨(hp.push o1), g, d, tk, os⟩ → wpAny (model prog w) A' (pyIter v1) Q E ⟨hp, g, d, tk, os⟩ := fun q => B1.iter prog w _ _ ⟨hp, g, d, tk, os⟩ _ (B1.keeps _ _ h1 fun c u e => e) q
    have w2 : ∀ {A' : Around} {E : Value → Shared → Prop} {Q : Value → Shared → Prop}, Q (.ref (hp.push o1).objs.size) ⟨((hp.push o1).push o2), g, d, tk, os⟩ → wpAny (model prog w) A' (pyIter v2) Q E ⟨(hp.push o1), g, d, tk, os⟩ := fun q => B2.iter prog w _ _ ⟨(hp.push o1), g, d, tk, os⟩ _ (B2.keeps _ _ h2 fun c u e => (Heap.get?_push_of_some _ e)) q
    wp_walk using w1, w2
    exact ⟨_, rfl, h⟩
/-- zip(.., strict=True) of 2: its new cells -/
theorem begins_strict2 {v1 v2 : Value} {o1 o2 : Obj} {G1 G2 : Heap → Prop} {Q : Value → Shared → Prop} (B1 : Begins v1 o1 G1) (B2 : Begins v2 o2 G2) (h1 : G1 s.heap) (h2 : G2 s.heap)
    (h : ∀ h', ZipO h' (s.heap.objs.size + 4) (s.heap.objs.size + 2) (s.heap.objs.size + 3) .none true → TupO h' (s.heap.objs.size + 2) #[.ref s.heap.objs.size, .ref (s.heap.objs.size + 1)] → TupO h' (s.heap.objs.size + 3) #[.none, .none] → h'.get? s.heap.objs.size = some o1 → h'.get? (s.heap.objs.size + 1) = some o2 → (∀ c o, s.heap.get? c = some o → h'.get? c = some o) → Q (.ref (s.heap.objs.size + 4)) { s with heap := h' }) :
    wpAny (model prog w) A (call (.type "zip") [v1, v2] [(Str.ofString "strict", .bool true)]) Q E s := by
  refine callType_newKw F.called_zip (by decide) (typeCall_strict2 _ _ _) (newCall_strict2 _ _ _) (fun obj => initArgs_strict2 obj _ _ _) F.entry_zip_new (meets_strict2 B1 B2) ⟨⟨h1, h2⟩, ?_⟩
  have z1 : (s.heap.push o1).objs.size = s.heap.objs.size + 1 := by rw [Heap.size_push]
  have z2 : ((s.heap.push o1).push o2).objs.size = s.heap.objs.size + 2 := by rw [Heap.size_push, z1]
  have z3 : (sT2 s.heap o1 o2).objs.size = s.heap.objs.size + 3 := by rw [Heap.size_push, z2]
  have z4 : (sO2 s.heap o1 o2).objs.size = s.heap.objs.size + 4 := by rw [Heap.size_push, z3]
  have z5 : (sZ2 s.heap o1 o2).objs.size = s.heap.objs.size + 5 := by rw [Heap.size_push, z4]
  have q0 : (sZ2 s.heap o1 o2).get? s.heap.objs.size = some o1 := (Heap.get?_push_of_some _ (Heap.get?_push_of_some _ (Heap.get?_push_of_some _ (Heap.get?_push_of_some _ (Heap.get?_push_size _ B1.free)))))
  have q1 : (sZ2 s.heap o1 o2).get? (s.heap.push o1).objs.size = some o2 := (Heap.get?_push_of_some _ (Heap.get?_push_of_some _ (Heap.get?_push_of_some _ (Heap.get?_push_size _ B2.free))))
  rw [z1] at q1
  have q2 : (sZ2 s.heap o1 o2).get? ((s.heap.push o1).push o2).objs.size = some ({ cls := .type "tuple", data := .seq #[.ref s.heap.objs.size, .ref (s.heap.push o1).objs.size] } : Obj) := (Heap.get?_push_of_some _ (Heap.get?_push_of_some _ (Heap.get?_push_size _ rfl)))
  rw [z2] at q2
  have q3 : (sZ2 s.heap o1 o2).get? (sT2 s.heap o1 o2).objs.size = some ({ cls := .type "tuple", data := .seq #[.none, .none] } : Obj) := (Heap.get?_push_of_some _ (Heap.get?_push_size _ rfl))
  rw [z3] at q3
  have q4 : (sZ2 s.heap o1 o2).get? (sO2 s.heap o1 o2).objs.size = some ({ cls := .type "zip", data := .fields #[.none, .bool false, .bool true, .ref ((s.heap.push o1).push o2).objs.size, .ref (sT2 s.heap o1 o2).objs.size] } : Obj) := (Heap.get?_push_size _ rfl)
  rw [z4] at q4
  rw [z1] at q2
  rw [z3, z2] at q4
  show _ ∧ _
  rw [z4]
  exact ⟨⟨_, q4, rfl⟩, h _ q4 q2 q3 q0 q1 fun c o e => (Heap.get?_push_of_some _ (Heap.get?_push_of_some _ (Heap.get?_push_of_some _ (Heap.get?_push_of_some _ (Heap.get?_push_of_some _ e)))))⟩
end
/-- the cells of a zip over 3 iterators lie apart -/
structure Sep3 (z TI TO i1 i2 i3 : Addr) (fp1 fp2 fp3 : List Addr) : Prop where
  zTO : z ≠ TO
  zTI : z ≠ TI
  TOTI : TO ≠ TI
  m1 : i1 ∈ fp1
  z1 : z ∉ fp1
  T1 : TO ∉ fp1
  I1 : TI ≠ i1
  s2_1 : i2 ∉ fp1
  s3_1 : i3 ∉ fp1
  m2 : i2 ∈ fp2
  z2 : z ∉ fp2
  T2 : TO ∉ fp2
  I2 : TI ≠ i2
  s1_2 : i1 ∉ fp2
  s3_2 : i3 ∉ fp2
  m3 : i3 ∈ fp3
  z3 : z ∉ fp3
  T3 : TO ∉ fp3
  I3 : TI ≠ i3
  s1_3 : i1 ∉ fp3
  s2_3 : i2 ∉ fp3
section
variable {prog : Program} {w : World} {A : Around} {E : Value → Shared → Prop} {s : Shared} {b : Bool}
theorem next_item3 {z TI TO i1 i2 i3 : Addr} {fp1 fp2 fp3 : List Addr} {n1 n2 n3 i : Nat} {P1 P2 P3 : Nat → Value → Prop} {St1 St2 St3 : Nat → Heap → Prop} {a1 a2 a3 : Value} {Q : Value → Shared → Prop} (S : Sep3 z TI TO i1 i2 i3 fp1 fp2 fp3) (D1 : Draws prog w A i1 fp1 n1 P1 St1) (D2 : Draws prog w A i2 fp2 n2 P2 St2) (D3 : Draws prog w A i3 fp3 n3 P3 St3)
    (hz : ZipO s.heap z TI TO .none b) (hTI : TupO s.heap TI #[.ref i1, .ref i2, .ref i3]) (hTO : TupO s.heap TO #[a1, a2, a3]) (st1 : St1 i s.heap) (st2 : St2 i s.heap) (st3 : St3 i s.heap) (hi1 : i < n1) (hi2 : i < n2) (hi3 : i < n3)
    (hQ : ∀ x1 x2 x3 h' tk, P1 i x1 → P2 i x2 → P3 i x3 → ZipO h' z TI TO (rawInt s.heap.objs.size) b → TupO h' TO #[x1, x2, x3] → St1 (i + 1) h' → St2 (i + 1) h' → St3 (i + 1) h' → TupO h' s.heap.objs.size #[x1, x2, x3] →
      (∀ c o, c ≠ z → c ≠ TO → c ≠ i1 → c ≠ i2 → c ≠ i3 → s.heap.get? c = some o → h'.get? c = some o) → Q (.ref s.heap.objs.size) { s with heap := h', toks := tk }) :
    wpAny (model prog w) A (Builtin.«zip.__next__» ⟨[.ref z], []⟩) (fun fin s' => ∃ v, fin = .done (.ret v) ∧ Q v s') E s := by
  obtain ⟨hp, g, d, tk0, os⟩ := s
  refine wpAny_bind (m := field (.ref z) 2) (wpAny_field hz rfl (x := .bool b) rfl ?_)
  refine wpAny_bind (m := field (.ref z) 3) (wpAny_field hz rfl (x := .ref TI) rfl ?_)
  refine wpAny_bind (wpAny_seqItems hTI rfl ?_)
  show wpAny _ _ (Builtin.SmallTypes.ownedTupleIsFree (.ref z) >>= _) _ _ _
  rw [val_b]
  refine wpAny_bind ?_
  unfold Builtin.SmallTypes.ownedTupleIsFree
  refine wpAny_bind (wpAny_field hz rfl (x := .none) rfl (wpAny_pure ?_))
  simp only [if_true]
  refine wpAny_bind (wpAny_rule (wpAny_bind (wpAny_field hz rfl (x := .ref TO) rfl ?_)))
  refine wpAny_bind (wpAny_setField_rec hz (by simp) fun g0 hz0 hs0 => wpAny_bind ?_)
  replace hs0 : Heap.SameBut z hp g0 := hs0
  replace hz0 : ZipO g0 z TI TO .ellipsis b := hz0
  have hT0 : TupO g0 TO #[a1, a2, a3] := hs0.extBut _ _ S.zTO.symm hTO
  have t1_0 : St1 i g0 := D1.frame _ _ _ st1 fun c hc o e => hs0.extBut c o (fun q => S.z1 (q ▸ hc)) e
  have t2_0 : St2 i g0 := D2.frame _ _ _ st2 fun c hc o e => hs0.extBut c o (fun q => S.z2 (q ▸ hc)) e
  have t3_0 : St3 i g0 := D3.frame _ _ _ st3 fun c hc o e => hs0.extBut c o (fun q => S.z3 (q ▸ hc)) e
  have k0 : ∀ c o, c ≠ z → c ≠ TO → c ≠ i1 → c ≠ i2 → c ≠ i3 → hp.get? c = some o → g0.get? c = some o := fun c o q0 _ _ _ _ e => hs0.extBut c o q0 e
  simp only [List.zipIdx_cons, List.zipIdx_nil, List.forIn_cons, List.forIn_nil]
  refine wpAny_bind (wpAny_bind (wpAny_onRaise (m := zdraw b (.ref i1)) (zdraw_item (s := ⟨g0, g, d, tk0, os⟩) D1 hi1 t1_0 fun x1 d1 tk1 p1 n1 hd1 => ?_)))
  replace hd1 : Heap.SameBut i1 g0 d1 := hd1
  have hU1 : TupO d1 TO #[a1, a2, a3] := hd1.extBut _ _ (fun q => S.T1 (q ▸ S.m1)) hT0
  refine wpAny_bind (wpAny_seqItems (s := ⟨d1, g, d, tk1, os⟩) hU1 rfl ?_)
  refine wpAny_bind (upd_tup (s := ⟨d1, g, d, tk1, os⟩) hU1 (by simp) fun g1 hT1 hs1 => ?_)
  replace hs1 : Heap.SameBut TO d1 g1 := hs1
  replace hT1 : TupO g1 TO #[x1, a2, a3] := hT1
  have hz1 : ZipO g1 z TI TO .ellipsis b := hs1.extBut _ _ S.zTO (hd1.extBut _ _ (fun q => S.z1 (q ▸ S.m1)) hz0)
  have t1_1 : St1 (i + 1) g1 := D1.frame _ _ _ n1 fun c hc o e => hs1.extBut c o (fun q => S.T1 (q ▸ hc)) e
  have t2_1 : St2 i g1 := D2.frame _ _ _ t2_0 fun c hc o e => hs1.extBut c o (fun q => S.T2 (q ▸ hc)) (hd1.extBut c o (fun q => S.s1_2 (q ▸ hc)) e)
  have t3_1 : St3 i g1 := D3.frame _ _ _ t3_0 fun c hc o e => hs1.extBut c o (fun q => S.T3 (q ▸ hc)) (hd1.extBut c o (fun q => S.s1_3 (q ▸ hc)) e)
  have k1 : ∀ c o, c ≠ z → c ≠ TO → c ≠ i1 → c ≠ i2 → c ≠ i3 → hp.get? c = some o → g1.get? c = some o := fun c o qz qT q1 q2 q3 e => hs1.extBut c o qT (hd1.extBut c o q1 (k0 c o qz qT q1 q2 q3 e))
  have e1 : g1.objs.size = g0.objs.size := by rw [hs1.1, hd1.1]
  refine wpAny_bind (wpAny_letGo (wpAny_pure ?_))
  refine wpAny_bind (wpAny_bind (wpAny_onRaise (m := zdraw b (.ref i2)) (zdraw_item (s := ⟨g1, g, d, tk1, os⟩) D2 hi2 t2_1 fun x2 d2 tk2 p2 n2 hd2 => ?_)))
  replace hd2 : Heap.SameBut i2 g1 d2 := hd2
  have hU2 : TupO d2 TO #[x1, a2, a3] := hd2.extBut _ _ (fun q => S.T2 (q ▸ S.m2)) hT1
  refine wpAny_bind (wpAny_seqItems (s := ⟨d2, g, d, tk2, os⟩) hU2 rfl ?_)
  refine wpAny_bind (upd_tup (s := ⟨d2, g, d, tk2, os⟩) hU2 (by simp) fun g2 hT2 hs2 => ?_)
  replace hs2 : Heap.SameBut TO d2 g2 := hs2
  replace hT2 : TupO g2 TO #[x1, x2, a3] := hT2
  have hz2 : ZipO g2 z TI TO .ellipsis b := hs2.extBut _ _ S.zTO (hd2.extBut _ _ (fun q => S.z2 (q ▸ S.m2)) hz1)
  have t1_2 : St1 (i + 1) g2 := D1.frame _ _ _ t1_1 fun c hc o e => hs2.extBut c o (fun q => S.T1 (q ▸ hc)) (hd2.extBut c o (fun q => S.s2_1 (q ▸ hc)) e)
  have t2_2 : St2 (i + 1) g2 := D2.frame _ _ _ n2 fun c hc o e => hs2.extBut c o (fun q => S.T2 (q ▸ hc)) e
  have t3_2 : St3 i g2 := D3.frame _ _ _ t3_1 fun c hc o e => hs2.extBut c o (fun q => S.T3 (q ▸ hc)) (hd2.extBut c o (fun q => S.s2_3 (q ▸ hc)) e)
  have k2 : ∀ c o, c ≠ z → c ≠ TO → c ≠ i1 → c ≠ i2 → c ≠ i3 → hp.get? c = some o → g2.get? c = some o := fun c o qz qT q1 q2 q3 e => hs2.extBut c o qT (hd2.extBut c o q2 (k1 c o qz qT q1 q2 q3 e))
  have e2 : g2.objs.size = g1.objs.size := by rw [hs2.1, hd2.1]
  refine wpAny_bind (wpAny_letGo (wpAny_pure ?_))
  refine wpAny_bind (wpAny_bind (wpAny_onRaise (m := zdraw b (.ref i3)) (zdraw_item (s := ⟨g2, g, d, tk2, os⟩) D3 hi3 t3_2 fun x3 d3 tk3 p3 n3 hd3 => ?_)))
  replace hd3 : Heap.SameBut i3 g2 d3 := hd3
  have hU3 : TupO d3 TO #[x1, x2, a3] := hd3.extBut _ _ (fun q => S.T3 (q ▸ S.m3)) hT2
  refine wpAny_bind (wpAny_seqItems (s := ⟨d3, g, d, tk3, os⟩) hU3 rfl ?_)
  refine wpAny_bind (upd_tup (s := ⟨d3, g, d, tk3, os⟩) hU3 (by simp) fun g3 hT3 hs3 => ?_)
  replace hs3 : Heap.SameBut TO d3 g3 := hs3
  replace hT3 : TupO g3 TO #[x1, x2, x3] := hT3
  have hz3 : ZipO g3 z TI TO .ellipsis b := hs3.extBut _ _ S.zTO (hd3.extBut _ _ (fun q => S.z3 (q ▸ S.m3)) hz2)
  have t1_3 : St1 (i + 1) g3 := D1.frame _ _ _ t1_2 fun c hc o e => hs3.extBut c o (fun q => S.T1 (q ▸ hc)) (hd3.extBut c o (fun q => S.s3_1 (q ▸ hc)) e)
  have t2_3 : St2 (i + 1) g3 := D2.frame _ _ _ t2_2 fun c hc o e => hs3.extBut c o (fun q => S.T2 (q ▸ hc)) (hd3.extBut c o (fun q => S.s3_2 (q ▸ hc)) e)
  have t3_3 : St3 (i + 1) g3 := D3.frame _ _ _ n3 fun c hc o e => hs3.extBut c o (fun q => S.T3 (q ▸ hc)) e
  have k3 : ∀ c o, c ≠ z → c ≠ TO → c ≠ i1 → c ≠ i2 → c ≠ i3 → hp.get? c = some o → g3.get? c = some o := fun c o qz qT q1 q2 q3 e => hs3.extBut c o qT (hd3.extBut c o q3 (k2 c o qz qT q1 q2 q3 e))
  have e3 : g3.objs.size = g2.objs.size := by rw [hs3.1, hd3.1]
  refine wpAny_bind (wpAny_letGo (wpAny_pure ?_))
  refine wpAny_pure ?_
  refine wpAny_bind (wpAny_seqItems (s := ⟨g3, g, d, tk3, os⟩) hT3 rfl ?_)
  refine wpAny_bind (wpAny_newTuple ?_)
  have hsz : g3.objs.size = hp.objs.size := by rw [e3, e2, e1, hs0.1]
  have hlt : z < g3.objs.size := Heap.lt_size hz3
  refine wpAny_bind ?_
  unfold Builtin.SmallTypes.ownedTupleHandOut
  have hy : ZipO (g3.push { cls := .type "tuple", data := .seq #[x1, x2, x3] }) z TI TO .ellipsis b := Heap.get?_push_of_some _ hz3
  refine wpAny_bind (wpAny_setField_rec hy (by simp) fun u1 hu1 hv1 => wpAny_setField_rec hu1 (by simp) fun u2 hu2 hv2 => ?_)
  have up : ∀ c o, c ≠ z → g3.get? c = some o → u2.get? c = some o := fun c o q e => hv2.extBut c o q (hv1.extBut c o q (Heap.get?_push_of_some _ e))
  have hN : TupO u2 g3.objs.size #[x1, x2, x3] := hv2.extBut _ _ (Nat.ne_of_gt hlt) (hv1.extBut _ _ (Nat.ne_of_gt hlt) (Heap.get?_push_size _ rfl))
  have hZ : ZipO u2 z TI TO (rawInt g3.objs.size) b := hu2
  rw [hsz] at hN hZ
  refine wpAny_pure ⟨_, rfl, ?_⟩
  show Q (.ref g3.objs.size) ⟨u2, g, d, tk3, os⟩
  rw [hsz]
  exact hQ x1 x2 x3 u2 tk3 p1 p2 p3 hZ (up _ _ S.zTO.symm hT3) (D1.frame _ _ _ t1_3 fun c hc o e => up c o (fun q => S.z1 (q ▸ hc)) e) (D2.frame _ _ _ t2_3 fun c hc o e => up c o (fun q => S.z2 (q ▸ hc)) e) (D3.frame _ _ _ t3_3 fun c hc o e => up c o (fun q => S.z3 (q ▸ hc)) e) hN fun c o qz qT q1 q2 q3 e => up c o qz (k3 c o qz qT q1 q2 q3 e)
theorem next_end3 {z TI TO i1 i2 i3 : Addr} {fp1 fp2 fp3 : List Addr} {n : Nat} {P1 P2 P3 : Nat → Value → Prop} {St1 St2 St3 : Nat → Heap → Prop} {a1 a2 a3 : Value} {Q : Fin → Shared → Prop} (hh : A.handled = none) (S : Sep3 z TI TO i1 i2 i3 fp1 fp2 fp3) (D1 : Draws prog w A i1 fp1 n P1 St1) (D2 : Draws prog w A i2 fp2 n P2 St2) (D3 : Draws prog w A i3 fp3 n P3 St3)
    (hz : ZipO s.heap z TI TO .none b) (hTI : TupO s.heap TI #[.ref i1, .ref i2, .ref i3]) (hTO : TupO s.heap TO #[a1, a2, a3]) (st1 : St1 n s.heap) (st2 : St2 n s.heap) (st3 : St3 n s.heap)
    (hE : ∀ h' e, (∀ c o, c ≠ z → c ≠ TO → c ≠ i1 → c ≠ i2 → c ≠ i3 → s.heap.get? c = some o → h'.get? c = some o) → (∃ o, h'.get? e = some o ∧ o.cls = .type "StopIteration") → E (.ref e) { s with heap := h' }) :
    wpAny (model prog w) A (Builtin.«zip.__next__» ⟨[.ref z], []⟩) Q E s := by
  obtain ⟨hp, g, d, tk0, os⟩ := s
  refine wpAny_bind (m := field (.ref z) 2) (wpAny_field hz rfl (x := .bool b) rfl ?_)
  refine wpAny_bind (m := field (.ref z) 3) (wpAny_field hz rfl (x := .ref TI) rfl ?_)
  refine wpAny_bind (wpAny_seqItems hTI rfl ?_)
  show wpAny _ _ (Builtin.SmallTypes.ownedTupleIsFree (.ref z) >>= _) _ _ _
  rw [val_b]
  refine wpAny_bind ?_
  unfold Builtin.SmallTypes.ownedTupleIsFree
  refine wpAny_bind (wpAny_field hz rfl (x := .none) rfl (wpAny_pure ?_))
  simp only [if_true]
  refine wpAny_bind (wpAny_rule (wpAny_bind (wpAny_field hz rfl (x := .ref TO) rfl ?_)))
  refine wpAny_bind (wpAny_setField_rec hz (by simp) fun g0 hz0 hs0 => wpAny_bind ?_)
  replace hs0 : Heap.SameBut z hp g0 := hs0
  replace hz0 : ZipO g0 z TI TO .ellipsis b := hz0
  have t1_0 : St1 n g0 := D1.frame _ _ _ st1 fun c hc o e => hs0.extBut c o (fun q => S.z1 (q ▸ hc)) e
  have t2_0 : St2 n g0 := D2.frame _ _ _ st2 fun c hc o e => hs0.extBut c o (fun q => S.z2 (q ▸ hc)) e
  have t3_0 : St3 n g0 := D3.frame _ _ _ st3 fun c hc o e => hs0.extBut c o (fun q => S.z3 (q ▸ hc)) e
  simp only [List.zipIdx_cons, List.zipIdx_nil, List.forIn_cons, List.forIn_nil]
  refine wpAny_bind (wpAny_bind (wpAny_onRaise ?_))
  cases b with
  | false =>
    refine wpAny_bind (m := Builtin.SmallTypes.nextOf (.ref i1)) (D1.done ⟨g0, g, d, tk0, os⟩ _ _ t1_0 fun y e hy he => ?_)
    replace hy : Heap.ExtBut i1 g0 y := hy
    obtain ⟨oe, hoe, hce⟩ := he
    replace hoe : y.get? e = some oe := hoe
    have hzy : ZipO y z TI TO .ellipsis false := hy _ _ (fun q => S.z1 (q ▸ S.m1)) hz0
    have hez : e ≠ z := fun x => by subst x; rw [hzy] at hoe; cases hoe; simp at hce
    refine wpAny_setField_rec (s := ⟨y, g, d, tk0, os⟩) hzy (by simp) fun y2 _ hv => ?_
    replace hv : Heap.SameBut z y y2 := hv
    exact hE y2 e (fun c o qz qT q1 q2 q3 x => hv.extBut c o qz (hy c o q1 (hs0.extBut c o qz x))) ⟨oe, hv.extBut _ _ hez hoe, hce⟩
  | true =>
    refine zend_strict (s := ⟨g0, g, d, tk0, os⟩) D1 t1_0 fun y hy => ?_
    replace hy : Heap.ExtBut i1 g0 y := hy
    have hzy : ZipO y z TI TO .ellipsis true := hy _ _ (fun q => S.z1 (q ▸ S.m1)) hz0
    have t2_1 : St2 n y := D2.frame _ _ _ t2_0 fun c hc o e => hy c o (fun q => S.s1_2 (q ▸ hc)) e
    have t3_1 : St3 n y := D3.frame _ _ _ t3_0 fun c hc o e => hy c o (fun q => S.s1_3 (q ▸ hc)) e
    refine wpAny_bind (wpAny_setField_rec (s := ⟨y, g, d, tk0, os⟩) hzy (by simp) fun y1 _ hv1 => ?_)
    replace hv1 : Heap.SameBut z y y1 := hv1
    have r2_1 : St2 n y1 := D2.frame _ _ _ t2_1 fun c hc o e => hv1.extBut c o (fun q => S.z2 (q ▸ hc)) e
    have r3_1 : St3 n y1 := D3.frame _ _ _ t3_1 fun c hc o e => hv1.extBut c o (fun q => S.z3 (q ▸ hc)) e
    have k1 : ∀ c o, c ≠ z → c ≠ TO → c ≠ i1 → c ≠ i2 → c ≠ i3 → hp.get? c = some o → y1.get? c = some o := fun c o qz qT q1 q2 q3 e => hv1.extBut c o qz (hy c o q1 (hs0.extBut c o qz e))
    refine wpAny_bind ?_
    refine wpAny_bind ?_
    simp only [List.drop_succ_cons, List.drop_zero, List.zipIdx_cons, List.zipIdx_nil, List.forIn_cons, List.forIn_nil]
    refine wpAny_bind (wpAny_bind (zend_strict (s := ⟨y1, g, d, tk0, os⟩) D2 r2_1 fun y2 hy2 => ?_))
    replace hy2 : Heap.ExtBut i2 y1 y2 := hy2
    have k2 : ∀ c o, c ≠ z → c ≠ TO → c ≠ i1 → c ≠ i2 → c ≠ i3 → hp.get? c = some o → y2.get? c = some o := fun c o qz qT q1 q2 q3 e => hy2 c o q2 (k1 c o qz qT q1 q2 q3 e)
    have r3_2 : St3 n y2 := D3.frame _ _ _ r3_1 fun c hc o e => hy2 c o (fun q => S.s2_3 (q ▸ hc)) e
    refine wpAny_pure ?_
    refine wpAny_bind (wpAny_bind (zend_strict (s := ⟨y2, g, d, tk0, os⟩) D3 r3_2 fun y3 hy3 => ?_))
    replace hy3 : Heap.ExtBut i3 y2 y3 := hy3
    have k3 : ∀ c o, c ≠ z → c ≠ TO → c ≠ i1 → c ≠ i2 → c ≠ i3 → hp.get? c = some o → y3.get? c = some o := fun c o qz qT q1 q2 q3 e => hy3 c o q3 (k2 c o qz qT q1 q2 q3 e)
    refine wpAny_pure ?_
    refine wpAny_pure ?_
    exact wpAny_bind (wpAny_rule (stop_it (s := ⟨y3, g, d, tk0, os⟩) hh fun h2 e kk he => hE h2 e (fun c o qz qT q1 q2 q3 x => kk c o (k3 c o qz qT q1 q2 q3 x)) he))
theorem py_item3 {z TI TO i1 i2 i3 : Addr} {fp1 fp2 fp3 : List Addr} {n1 n2 n3 i : Nat} {P1 P2 P3 : Nat → Value → Prop} {St1 St2 St3 : Nat → Heap → Prop} {a1 a2 a3 : Value} {Q : Option Value → Shared → Prop} (S : Sep3 z TI TO i1 i2 i3 fp1 fp2 fp3) (D1 : Draws prog w A.in1 i1 fp1 n1 P1 St1) (D2 : Draws prog w A.in1 i2 fp2 n2 P2 St2) (D3 : Draws prog w A.in1 i3 fp3 n3 P3 St3)
    (hz : ZipO s.heap z TI TO .none b) (hTI : TupO s.heap TI #[.ref i1, .ref i2, .ref i3]) (hTO : TupO s.heap TO #[a1, a2, a3]) (st1 : St1 i s.heap) (st2 : St2 i s.heap) (st3 : St3 i s.heap) (hi1 : i < n1) (hi2 : i < n2) (hi3 : i < n3)
    (hQ : ∀ x1 x2 x3 h' tk, P1 i x1 → P2 i x2 → P3 i x3 → ZipO h' z TI TO (rawInt s.heap.objs.size) b → TupO h' TO #[x1, x2, x3] → St1 (i + 1) h' → St2 (i + 1) h' → St3 (i + 1) h' → TupO h' s.heap.objs.size #[x1, x2, x3] →
      (∀ c o, c ≠ z → c ≠ TO → c ≠ i1 → c ≠ i2 → c ≠ i3 → s.heap.get? c = some o → h'.get? c = some o) → Q (some (.ref s.heap.objs.size)) { s with heap := h', toks := tk }) : wpAny (model prog w) A (pyNext (.ref z)) Q E s := by
  have hT : s.TypeIs (.ref z) "zip" := ⟨_, hz, rfl⟩
  unfold pyNext
  refine wpAny_bind (wpAny_attempt (wpAny_callSpecial?_slot (name := Str.ofString "__next__") hT F.slot_zip_next (wpAny_call_entry F.slot_zip_next hT F.entry_zip_next ?_ (F.args_zip_next_1 _))))
  exact next_item3 S D1 D2 D3 hz hTI hTO st1 st2 st3 hi1 hi2 hi3 fun x1 x2 x3 h2 tk p1 p2 p3 q1 q2 u1 u2 u3 q3 q4 => wpAny_pure (hQ x1 x2 x3 h2 tk p1 p2 p3 q1 q2 u1 u2 u3 q3 q4)
theorem py_end3 {z TI TO i1 i2 i3 : Addr} {fp1 fp2 fp3 : List Addr} {n : Nat} {P1 P2 P3 : Nat → Value → Prop} {St1 St2 St3 : Nat → Heap → Prop} {a1 a2 a3 : Value} {Q : Option Value → Shared → Prop} (hh : A.handled = none) (S : Sep3 z TI TO i1 i2 i3 fp1 fp2 fp3) (D1 : Draws prog w A.in1 i1 fp1 n P1 St1) (D2 : Draws prog w A.in1 i2 fp2 n P2 St2) (D3 : Draws prog w A.in1 i3 fp3 n P3 St3)
    (hz : ZipO s.heap z TI TO .none b) (hTI : TupO s.heap TI #[.ref i1, .ref i2, .ref i3]) (hTO : TupO s.heap TO #[a1, a2, a3]) (st1 : St1 n s.heap) (st2 : St2 n s.heap) (st3 : St3 n s.heap)
    (hQ : ∀ h', (∀ c o, c ≠ z → c ≠ TO → c ≠ i1 → c ≠ i2 → c ≠ i3 → s.heap.get? c = some o → h'.get? c = some o) → Q none { s with heap := h' }) : wpAny (model prog w) A (pyNext (.ref z)) Q E s := by
  have hT : s.TypeIs (.ref z) "zip" := ⟨_, hz, rfl⟩
  unfold pyNext
  refine wpAny_bind (wpAny_attempt (wpAny_callSpecial?_slot (name := Str.ofString "__next__") hT F.slot_zip_next (wpAny_call_entry F.slot_zip_next hT F.entry_zip_next ?_ (F.args_zip_next_1 _))))
  refine next_end3 (A := A.in1) hh S D1 D2 D3 hz hTI hTO st1 st2 st3 fun h2 e kk he => ?_
  obtain ⟨o, ho, hc⟩ := he
  exact wpAny_bind (wpAny_isInstance (T := "StopIteration") (b := true) ⟨o, ho, hc⟩ isSubtype_stop (wpAny_pure (hQ _ kk)))
theorem typeCall_strict3 (v1 v2 v3 x : Value) : checkTypeCall "zip" ⟨[v1, v2, v3], [(Str.ofString "strict", x)]⟩ = pure () := by kernel_rfl
theorem newCall_strict3 (v1 v2 v3 x : Value) : checkBuiltinCall "zip.__new__" ⟨[.type "zip", v1, v2, v3], [(Str.ofString "strict", x)]⟩ = pure () := by kernel_rfl
theorem initArgs_strict3 (obj v1 v2 v3 x : Value) : argsOk "object.__init__" ⟨[obj, v1, v2, v3], [(Str.ofString "strict", x)]⟩ := by unfold argsOk; kernel_rfl
abbrev sT3 (h : Heap) (o1 o2 o3 : Obj) : Heap := ((((h.push o1).push o2).push o3).push { cls := .type "tuple", data := .seq #[.ref h.objs.size, .ref (h.push o1).objs.size, .ref ((h.push o1).push o2).objs.size] })
abbrev sO3 (h : Heap) (o1 o2 o3 : Obj) : Heap := (sT3 h o1 o2 o3).push { cls := .type "tuple", data := .seq #[.none, .none, .none] }
abbrev sZ3 (h : Heap) (o1 o2 o3 : Obj) : Heap := (sO3 h o1 o2 o3).push { cls := .type "zip", data := .fields #[.none, .bool false, .bool true, .ref (((h.push o1).push o2).push o3).objs.size, .ref (sT3 h o1 o2 o3).objs.size] }
theorem meets_strict3 {v1 v2 v3 : Value} {o1 o2 o3 : Obj} {G1 G2 G3 : Heap → Prop} (B1 : Begins v1 o1 G1) (B2 : Begins v2 o2 G2) (B3 : Begins v3 o3 G3) :
    Meets (Builtin.«zip.__new__» ⟨[.type "zip", v1, v2, v3], [(Str.ofString "strict", .bool true)]⟩) (fun _ R s => (G1 s.heap ∧ G2 s.heap ∧ G3 s.heap) ∧ R (.ok (.ret (.ref (sO3 s.heap o1 o2 o3).objs.size))) { s with heap := (sZ3 s.heap o1 o2 o3) }) :=
  .of_wp fun prog w A R s h => by
    obtain ⟨hp, g, d, tk, os⟩ := s
    obtain ⟨⟨h1, h2, h3⟩, h⟩ := h
    have hsub := sub_zip
    have e1 : (Str.ofString "strict" != ("strict" : Str)) = false := by decide +kernel
    have w1 : ∀ {A' : Around} {E : Value → Shared → Prop} {Q : Value → Shared → Prop}, Q (.ref hp.objs.size) ⟨(hp.push o1), g, d, tk, os⟩ → wpAny (model prog w) A' (pyIter v1) Q E ⟨hp, g, d, tk, os⟩ := fun q => B1.iter prog w _ _ ⟨hp, g, d, tk, os⟩ _ (B1.keeps _ _ h1 fun c u e => e) q
    have w2 : ∀ {A' : Around} {E : Value → Shared → Prop} {Q : Value → Shared → Prop}, Q (.ref (hp.push o1).objs.size) ⟨((hp.push o1).push o2), g, d, tk, os⟩ → wpAny (model prog w) A' (pyIter v2) Q E ⟨(hp.push o1), g, d, tk, os⟩ := fun q => B2.iter prog w _ _ ⟨(hp.push o1), g, d, tk, os⟩ _ (B2.keeps _ _ h2 fun c u e => (Heap.get?_push_of_some _ e)) q
    have w3 : ∀ {A' : Around} {E : Value → Shared → Prop} {Q : Value → Shared → Prop}, Q (.ref ((hp.push o1).push o2).objs.size) ⟨(((hp.push o1).push o2).push o3), g, d, tk, os⟩ → wpAny (model prog w) A' (pyIter v3) Q E ⟨((hp.push o1).push o2), g, d, tk, os⟩ := fun q => B3.iter prog w _ _ ⟨((hp.push o1).push o2), g, d, tk, os⟩ _ (B3.keeps _ _ h3 fun c u e => (Heap.get?_push_of_some _ (Heap.get?_push_of_some _ e))) q
    wp_walk using w1, w2, w3
    exact ⟨_, rfl, h⟩
/-- zip(.., strict=True) of 3: its new cells -/
theorem begins_strict3 {v1 v2 v3 : Value} {o1 o2 o3 : Obj} {G1 G2 G3 : Heap → Prop} {Q : Value → Shared → Prop} (B1 : Begins v1 o1 G1) (B2 : Begins v2 o2 G2) (B3 : Begins v3 o3 G3) (h1 : G1 s.heap) (h2 : G2 s.heap) (h3 : G3 s.heap)
    (h : ∀ h', ZipO h' (s.heap.objs.size + 5) (s.heap.objs.size + 3) (s.heap.objs.size + 4) .none true → TupO h' (s.heap.objs.size + 3) #[.ref s.heap.objs.size, .ref (s.heap.objs.size + 1), .ref (s.heap.objs.size + 2)] → TupO h' (s.heap.objs.size + 4) #[.none, .none, .none] → h'.get? s.heap.objs.size = some o1 → h'.get? (s.heap.objs.size + 1) = some o2 → h'.get? (s.heap.objs.size + 2) = some o3 → (∀ c o, s.heap.get? c = some o → h'.get? c = some o) → Q (.ref (s.heap.objs.size + 5)) { s with heap := h' }) :
    wpAny (model prog w) A (call (.type "zip") [v1, v2, v3] [(Str.ofString "strict", .bool true)]) Q E s := by
  refine callType_newKw F.called_zip (by decide) (typeCall_strict3 _ _ _ _) (newCall_strict3 _ _ _ _) (fun obj => initArgs_strict3 obj _ _ _ _) F.entry_zip_new (meets_strict3 B1 B2 B3) ⟨⟨h1, h2, h3⟩, ?_⟩
  have z1 : (s.heap.push o1).objs.size = s.heap.objs.size + 1 := by rw [Heap.size_push]
  have z2 : ((s.heap.push o1).push o2).objs.size = s.heap.objs.size + 2 := by rw [Heap.size_push, z1]
  have z3 : (((s.heap.push o1).push o2).push o3).objs.size = s.heap.objs.size + 3 := by rw [Heap.size_push, z2]
  have z4 : (sT3 s.heap o1 o2 o3).objs.size = s.heap.objs.size + 4 := by rw [Heap.size_push, z3]
  have z5 : (sO3 s.heap o1 o2 o3).objs.size = s.heap.objs.size + 5 := by rw [Heap.size_push, z4]
  have z6 : (sZ3 s.heap o1 o2 o3).objs.size = s.heap.objs.size + 6 := by rw [Heap.size_push, z5]
  have q0 : (sZ3 s.heap o1 o2 o3).get? s.heap.objs.size = some o1 := (Heap.get?_push_of_some _ (Heap.get?_push_of_some _ (Heap.get?_push_of_some _ (Heap.get?_push_of_some _ (Heap.get?_push_of_some _ (Heap.get?_push_size _ B1.free))))))
  have q1 : (sZ3 s.heap o1 o2 o3).get? (s.heap.push o1).objs.size = some o2 := (Heap.get?_push_of_some _ (Heap.get?_push_of_some _ (Heap.get?_push_of_some _ (Heap.get?_push_of_some _ (Heap.get?_push_size _ B2.free)))))
  rw [z1] at q1
  have q2 : (sZ3 s.heap o1 o2 o3).get? ((s.heap.push o1).push o2).objs.size = some o3 := (Heap.get?_push_of_some _ (Heap.get?_push_of_some _ (Heap.get?_push_of_some _ (Heap.get?_push_size _ B3.free))))
  rw [z2] at q2
  have q3 : (sZ3 s.heap o1 o2 o3).get? (((s.heap.push o1).push o2).push o3).objs.size = some ({ cls := .type "tuple", data := .seq #[.ref s.heap.objs.size, .ref (s.heap.push o1).objs.size, .ref ((s.heap.push o1).push o2).objs.size] } : Obj) := (Heap.get?_push_of_some _ (Heap.get?_push_of_some _ (Heap.get?_push_size _ rfl)))
  rw [z3] at q3
  have q4 : (sZ3 s.heap o1 o2 o3).get? (sT3 s.heap o1 o2 o3).objs.size = some ({ cls := .type "tuple", data := .seq #[.none, .none, .none] } : Obj) := (Heap.get?_push_of_some _ (Heap.get?_push_size _ rfl))
  rw [z4] at q4
  have q5 : (sZ3 s.heap o1 o2 o3).get? (sO3 s.heap o1 o2 o3).objs.size = some ({ cls := .type "zip", data := .fields #[.none, .bool false, .bool true, .ref (((s.heap.push o1).push o2).push o3).objs.size, .ref (sT3 s.heap o1 o2 o3).objs.size] } : Obj) := (Heap.get?_push_size _ rfl)
  rw [z5] at q5
  rw [z2, z1] at q3
  rw [z4, z3] at q5
  show _ ∧ _
  rw [z5]
  exact ⟨⟨_, q5, rfl⟩, h _ q5 q3 q4 q0 q1 q2 fun c o e => (Heap.get?_push_of_some _ (Heap.get?_push_of_some _ (Heap.get?_push_of_some _ (Heap.get?_push_of_some _ (Heap.get?_push_of_some _ (Heap.get?_push_of_some _ e))))))⟩
end
end CZ

namespace CZ
open PySem PySem.Spec PyProof.Rows L2
/-- a list (false) or a tuple (true) that is read -/
def SqK (K : PySem.W.Frag) (H : Hp) (p : Bool × Addr) (xs : List V) : Prop := if p.1 = true then SqT K H p.2 xs else SqL K H p.2 xs
def SqIt (h : Heap) (it : Addr) (p : Bool × Addr) (i : Nat) : Prop := if p.1 = true then h.IsTupleIter it p.2 i else h.IsListIter it p.2 i
def SeqIs (h : Heap) (p : Bool × Addr) (its : List Value) : Prop := if p.1 = true then h.IsTuple p.2 its.toArray else h.IsList p.2 its.toArray
/-- the iterator's object as it begins -/
def itO (p : Bool × Addr) : Obj := if p.1 = true then { cls := .type "tuple_iterator", data := .fields #[.ref p.2, .int 0 0] } else { cls := .type "list_iterator", data := .fields #[.ref p.2, .int 0 0] }
theorem SqIt.at {h h' : Heap} {it : Addr} {p : Bool × Addr} {i : Nat} (x : SqIt h it p i) (k : ∀ o, h.get? it = some o → h'.get? it = some o) : SqIt h' it p i := by
  obtain ⟨b, a⟩ := p
  cases b
  · exact Heap.IsListIter.at (show h.IsListIter it a i from x) k
  · exact Heap.IsTupleIter.at (show h.IsTupleIter it a i from x) k
theorem SqIt.obj {h : Heap} {it : Addr} {p : Bool × Addr} {i : Nat} (x : SqIt h it p i) : ∃ o, h.get? it = some o ∧ ∀ v, o.data ≠ .cell v := by
  obtain ⟨b, a⟩ := p
  cases b
  · obtain ⟨o, e, _, d⟩ := (show h.IsListIter it a i from x)
    exact ⟨o, e, fun v q => by rw [d] at q; cases q⟩
  · obtain ⟨o, e, _, d⟩ := (show h.IsTupleIter it a i from x)
    exact ⟨o, e, fun v q => by rw [d] at q; cases q⟩
theorem SqIt.begin {h : Heap} {it : Addr} {p : Bool × Addr} (e : h.get? it = some (itO p)) : SqIt h it p 0 := by
  obtain ⟨b, a⟩ := p
  cases b
  · exact ⟨_, e, rfl, rfl⟩
  · exact ⟨_, e, rfl, rfl⟩
theorem begins_of (p : Bool × Addr) (its : List Value) : Begins (.ref p.2) (itO p) (fun h => SeqIs h p its) := by
  obtain ⟨b, a⟩ := p
  cases b
  · exact begins_list a its.toArray
  · exact begins_tuple a its.toArray
theorem draws_of {prog : Program} {w : World} {A : Around} (hh : A.handled = none) (it : Addr) (p : Bool × Addr) (ne : p.2 ≠ it) (its : List Value) :
    Draws prog w A it [it, p.2] its.toArray.size (fun i v => its.toArray[i]? = some v) (fun i h => SqIt h it p i ∧ SeqIs h p its) := by
  obtain ⟨b, a⟩ := p
  cases b
  · exact Draws.list hh it a ne its.toArray
  · exact Draws.tuple hh it a ne its.toArray
section
variable {X : Cx} {pins : List (Addr × Obj)} {σ : L2.St} {H : Hp} {s : Shared} {p : Bool × Addr} {xs ys : List V}
theorem sq_seq (I : Inv X pins σ H s) (h : SqK X.K H p xs) : ∃ its : List Value, Vals xs its ∧ SeqIs s.heap p its ∧ p.2 < s.heap.objs.size := by
  obtain ⟨b, a⟩ := p
  cases b
  · obtain ⟨its, rv, q, _⟩ := I.list (show SqL X.K H a xs from h)
    exact ⟨its, rv, q.isList, q.lt⟩
  · obtain ⟨its, rv, q, _⟩ := I.tuple (show SqT X.K H a xs from h)
    obtain ⟨o, ho, _⟩ := id q
    exact ⟨its, rv, q, Heap.lt_size ho⟩
theorem sq_inj (I : Inv X pins σ H s) (h : SqK X.K H p xs) (h2 : SqK X.K H p ys) : xs = ys := by
  obtain ⟨b, a⟩ := p
  cases b
  · exact I.list_inj (show SqL X.K H a xs from h) h2
  · exact I.tuple_inj (show SqT X.K H a xs from h) h2
end
/-- what a zip of lists and tuples of one length gives -/
def ItZ (K : PySem.W.Frag) (l : List (Bool × Addr)) : It :=
  ⟨fun i H => ∃ vs : List V, Paired (fun p v => ∃ xs, SqK K H p xs ∧ xs[i]? = some v) l vs,
    fun i H v H2 => ∃ (T : Addr) (vs : List V), v = .ref T ∧ H T = none ∧ H2 = upd H T (.tup vs) ∧ Paired (fun p v => ∀ xs, SqK K H p xs → xs[i]? = some v) l vs,
    fun i H => ∀ p ∈ l, ∃ xs, SqK K H p xs ∧ xs.length = i⟩
def YRow (xss : List (List V)) : Nat → Hp → V → Hp → Prop := fun i H v H2 => ∃ (T : Addr) (vs : List V), v = .ref T ∧ H T = none ∧ H2 = upd H T (.tup vs) ∧ Paired (fun (xs : List V) v => xs[i]? = some v) xss vs
theorem pair_go {K : PySem.W.Frag} {H : Hp} {i : Nat} : ∀ {l : List (Bool × Addr)} {xss : List (List V)}, Paired (fun p xs => SqK K H p xs) l xss → (∀ xs ∈ xss, i < xs.length) → ∃ vs, Paired (fun p v => ∃ xs, SqK K H p xs ∧ xs[i]? = some v) l vs
  | _, _, .nil, _ => ⟨[], .nil⟩
  | _, _, .cons (b := xs) r t, h => by
    obtain ⟨vs, q⟩ := pair_go t fun ys hy => h ys (List.mem_cons_of_mem _ hy)
    have hi := h xs List.mem_cons_self
    exact ⟨xs[i] :: vs, .cons ⟨xs, r, List.getElem?_eq_getElem hi⟩ q⟩
theorem pair_row {K : PySem.W.Frag} {H : Hp} {i : Nat} : ∀ {l : List (Bool × Addr)} {xss : List (List V)} {vs : List V}, Paired (fun p xs => SqK K H p xs) l xss → Paired (fun p v => ∀ xs, SqK K H p xs → xs[i]? = some v) l vs → Paired (fun (xs : List V) v => xs[i]? = some v) xss vs
  | _, _, _, .nil, .nil => .nil
  | _, _, _, .cons r t, .cons q u => .cons (q _ r) (pair_row t u)
theorem pair_stop {K : PySem.W.Frag} {H : Hp} {n : Nat} : ∀ {l : List (Bool × Addr)} {xss : List (List V)}, Paired (fun p xs => SqK K H p xs) l xss → (∀ xs ∈ xss, xs.length = n) → ∀ p ∈ l, ∃ xs, SqK K H p xs ∧ xs.length = n
  | _, _, .nil, _, _, hp => nomatch hp
  | _, _, .cons r t, h, p, hp => by
    rcases List.mem_cons.mp hp with e | hp
    · rw [e]
      exact ⟨_, r, h _ List.mem_cons_self⟩
    · exact pair_stop t (fun ys hy => h ys (List.mem_cons_of_mem _ hy)) p hp
theorem walk_rows {K : PySem.W.Frag} {l : List (Bool × Addr)} {xss : List (List V)} {n : Nat} (hn : ∀ xs ∈ xss, xs.length = n) : Walk (ItZ K l) n (fun H => Paired (fun p xs => SqK K H p xs) l xss) (YRow xss) :=
  ⟨fun i H hi q => pair_go q fun xs hx => by rw [hn xs hx]; exact hi, fun H q => pair_stop q hn, fun i H x H2 _ q y => by
    obtain ⟨T, vs, h1, h2, h3, h4⟩ := y
    exact ⟨T, vs, h1, h2, h3, pair_row q h4⟩⟩
/-- the reading of zip(..): which are tuples is told by the flags -/
def iZ (K : PySem.W.Frag) (fl : List Bool) (ta : TA) : TI := fun σ H R => ta σ H fun vs H1 => ∃ l : List Addr, vs = l.map V.ref ∧ l.length = fl.length ∧ (∀ p ∈ fl.zip l, ∃ xs, SqK K H1 p xs) ∧ R (ItZ K (fl.zip l)) H1
theorem nin_new {M a : Nat} (j k : Nat) (h : a < M) (hjk : j ≠ k) : M + j ∉ [M + k, a] := by
  simp only [List.mem_cons, List.mem_nil_iff, or_false, not_or]
  omega
theorem looks_ty {M : Model} {h : Heap} (T : String) (_ : True) : ∃ k, (k = Keeper.frame ∨ k = Keeper.machine ∨ k = Keeper.boundFrame) ∧ PySem.W.Looks M h (keeperOf (.type T)) k := ⟨_, .inr (.inl rfl), PySem.W.Looks.of_pure rfl⟩
end CZ

namespace CZ
open PySem PySem.Spec PyProof.Rows L2
theorem turn_z2 {P : Program} {w : World} {K : PySem.W.Frag} {elts : List Expr} {kk : Nat} {tpos : Pos} {z TI TO i1 i2 : Addr} {p1 p2 : Bool × Addr} {b : Bool} (S : Sep2 z TI TO i1 i2 [i1, p1.2] [i2, p2.2]) (ne1 : p1.2 ≠ i1) (ne2 : p2.2 ≠ i2) :
    Turn P w K (.Tuple elts kk tpos) (ItZ K [p1, p2]) [z, TI, TO, i1, i2] z (fun i h => ZipO h z TI TO .none b ∧ TupO h TI #[.ref i1, .ref i2] ∧ (∃ a1 a2, TupO h TO #[a1, a2]) ∧ SqIt h i1 p1 i ∧ SqIt h i2 p2 i) where
  mem := by simp
  obj := fun i h st c hc => by
    obtain ⟨hz, hTI, ⟨a1, a2, hTO⟩, h1, h2⟩ := st
    have e : c = z ∨ c = TI ∨ c = TO ∨ c = i1 ∨ c = i2 := by simpa using hc
    rcases e with q | q | q | q | q
    · rw [q]; exact ⟨_, hz, fun v q => nomatch q⟩
    · rw [q]; exact ⟨_, hTI, fun v q => nomatch q⟩
    · rw [q]; exact ⟨_, hTO, fun v q => nomatch q⟩
    · rw [q]; exact h1.obj
    · rw [q]; exact h2.obj
  keep := fun i h h2 st k => by
    obtain ⟨hz, hTI, ⟨a1, a2, hTO⟩, h1, h2⟩ := st
    exact ⟨k z (by simp) _ hz, k TI (by simp) _ hTI, ⟨a1, a2, k TO (by simp) _ hTO⟩, h1.at fun o q => k i1 (by simp) o q, h2.at fun o q => k i2 (by simp) o q⟩
  item := by
    intro X hP hw hK hc i pins s σ H E I hf st hg
    subst hP hw hK
    obtain ⟨hz, hTI, ⟨a1, a2, hTO⟩, h1, h2⟩ := st
    obtain ⟨vs, hv⟩ := hg
    cases hv with
    | cons r1 hv1 =>
      rename_i v1 ws1
      obtain ⟨xs1, hq1, hx1⟩ := r1
      obtain ⟨its1, rv1, q1, _⟩ := sq_seq I hq1
      obtain ⟨u1, hu1, ru1⟩ := rv1.get hx1
      have g1 : its1.toArray[i]? = some u1 := by simpa using hu1
      have l1 : i < its1.toArray.size := by have := (List.getElem?_eq_some_iff.mp hu1).1; simpa using this
      cases hv1 with
      | cons r2 hv2 =>
        rename_i v2 ws2
        obtain ⟨xs2, hq2, hx2⟩ := r2
        obtain ⟨its2, rv2, q2, _⟩ := sq_seq I hq2
        obtain ⟨u2, hu2, ru2⟩ := rv2.get hx2
        have g2 : its2.toArray[i]? = some u2 := by simpa using hu2
        have l2 : i < its2.toArray.size := by have := (List.getElem?_eq_some_iff.mp hu2).1; simpa using this
        cases hv2
        have hzl : z < s.heap.objs.size := Heap.lt_size hz
        refine py_item2 S (draws_of (A := X.A.in1) (I.ok.hd hc) i1 p1 ne1 its1) (draws_of (A := X.A.in1) (I.ok.hd hc) i2 p2 ne2 its2) hz hTI hTO ⟨h1, q1⟩ ⟨h2, q2⟩ l1 l2 fun x1 x2 hA tk y1 y2 z2 TO2 n1 n2 hT hk => ?_
        obtain rfl : u1 = x1 := Option.some.inj (g1.symm.trans y1)
        obtain rfl : u2 = x2 := Option.some.inj (g2.symm.trans y2)
        refine ⟨_, rfl, go_zip (s := { s with heap := hA, toks := tk }) z2 fun hB z3 sb => ?_⟩
        replace sb : Heap.SameBut z hA hB := sb
        have hT2 : hB.get? s.heap.objs.size = some { cls := .type "tuple", data := .seq #[u1, u2] } := (sb.2 _ (Nat.ne_of_gt hzl)).trans hT
        have new : ObjOk X.prog X.w (upd H s.heap.objs.size (.tup [v1, v2])) hB s.heap.objs.size (.tup [v1, v2]) := ⟨by show 2 ≤ sizeLine; decide, [u1, u2], (.cons ru1 (.cons ru2 .nil)), ⟨_, hT2, rfl, _, rfl⟩⟩
        have I1 : Inv X pins σ (upd H s.heap.objs.size (.tup [v1, v2])) { s with heap := hB, toks := tk } := I.turnedNew (t' := tk) (ch := [z, TI, TO, i1, i2]) (fun c o hb q => (sb.2 c (fun q => hb (by simp [q]))).trans (hk c o (fun q => hb (by simp [q])) (fun q => hb (by simp [q])) (fun q => hb (by simp [q])) (fun q => hb (by simp [q])) q)) hf (Nat.le_refl _) new
        refine ⟨.ref s.heap.objs.size, _, I1, rfl, ⟨_, _, rfl, I.hok.fresh (Nat.le_refl _), rfl, (.cons (fun l hl => by rw [sq_inj I hl hq1]; exact hx1) (.cons (fun l hl => by rw [sq_inj I hl hq2]; exact hx2) .nil))⟩, ⟨z3, (sb.2 _ S.zTI.symm).trans (hk _ _ S.zTI.symm S.TOTI.symm S.I1 S.I2 hTI), ⟨u1, u2, (sb.2 _ S.zTO.symm).trans TO2⟩, (n1.1.at fun o q => (sb.2 _ (fun q => S.z1 (by rw [← q]; exact S.m1))).trans q), (n2.1.at fun o q => (sb.2 _ (fun q => S.z2 (by rw [← q]; exact S.m2))).trans q)⟩, fun c hcm => ?_⟩
        have hlt : c < s.heap.objs.size := by
          have e : c = z ∨ c = TI ∨ c = TO ∨ c = i1 ∨ c = i2 := by simpa using hcm
          rcases e with q | q | q | q | q
          · rw [q]; exact hzl
          · rw [q]; exact Heap.lt_size hTI
          · rw [q]; exact Heap.lt_size hTO
          · rw [q]; obtain ⟨_, e1, _⟩ := h1.obj; exact Heap.lt_size e1
          · rw [q]; obtain ⟨_, e1, _⟩ := h2.obj; exact Heap.lt_size e1
        rw [upd_ne (Nat.ne_of_lt hlt)]
        exact (hf c hcm).1
  done := by
    intro X hP hw hK hc i pins s σ H E I hf st hg
    subst hP hw hK
    obtain ⟨hz, hTI, ⟨a1, a2, hTO⟩, h1, h2⟩ := st
    obtain ⟨xs1, hq1, hx1⟩ := hg p1 (by simp)
    obtain ⟨its1, rv1, q1, _⟩ := sq_seq I hq1
    have l1 : its1.toArray.size = i := by have := rv1.length; simp; omega
    have D1 := draws_of (prog := X.prog) (w := X.w) (A := X.A.in1) (I.ok.hd hc) i1 p1 ne1 its1
    rw [l1] at D1
    obtain ⟨xs2, hq2, hx2⟩ := hg p2 (by simp)
    obtain ⟨its2, rv2, q2, _⟩ := sq_seq I hq2
    have l2 : its2.toArray.size = i := by have := rv2.length; simp; omega
    have D2 := draws_of (prog := X.prog) (w := X.w) (A := X.A.in1) (I.ok.hd hc) i2 p2 ne2 its2
    rw [l2] at D2
    exact py_end2 (I.ok.hd hc) S D1 D2 hz hTI hTO ⟨h1, q1⟩ ⟨h2, q2⟩ fun h2 hk => ⟨rfl, I.turnedL (t' := s.toks) (ch := [z, TI, TO, i1, i2]) (fun c o hb q => hk c o (fun q => hb (by simp [q])) (fun q => hb (by simp [q])) (fun q => hb (by simp [q])) (fun q => hb (by simp [q])) q) hf⟩
  self := fun A i s Q E st h => iter_zip st.1 h
theorem sep_new2 {M : Nat} {p1 p2 : Bool × Addr} (h1 : p1.2 < M) (h2 : p2.2 < M) : Sep2 (M + 4) (M + 2) (M + 3) M (M + 1) [M, p1.2] [M + 1, p2.2] where
  zTO := by show (M + 4 : Nat) ≠ M + 3; omega
  zTI := by show (M + 4 : Nat) ≠ M + 2; omega
  TOTI := by show (M + 3 : Nat) ≠ M + 2; omega
  m1 := by simp
  z1 := nin_new (a := p1.2) 4 0 h1 (by decide)
  T1 := nin_new (a := p1.2) 3 0 h1 (by decide)
  I1 := by show (M + 2 : Nat) ≠ M; omega
  s2_1 := nin_new (a := p1.2) 1 0 h1 (by decide)
  m2 := by simp
  z2 := nin_new (a := p2.2) 4 1 h2 (by decide)
  T2 := nin_new (a := p2.2) 3 1 h2 (by decide)
  I2 := by show (M + 2 : Nat) ≠ M + 1; omega
  s1_2 := nin_new (a := p2.2) 0 1 h2 (by decide)
theorem pi_z2s {X : Cx} {e1 e2 : Expr} {ta : TA} {p pos tpos : Pos} {elts : List Expr} {kk : Nat} {jj : Nat} {kp kp2 : Pos} {fl : List Bool} (hfl : fl.length = 2) (hg : Gl X "zip") (hm : X.mg "zip" = none) (ha : PA X [e1, e2] ta)
    (hs : starEach [e1, e2] X.env = (false, eval e1 X.env) :: starEach [e2] X.env := by rfl) (hpl : (backTo pos (starEach [e2] X.env)).any (·.1) = false := by rfl) :
    PI X (.Tuple elts kk tpos) (.Call (.Name "zip" p) [e1, e2] [⟨some "strict", .Constant (.bool true) jj kp, kp2⟩] pos) (iZ X.K fl ta) := by
  refine ⟨fun pins s σ H R I h => ?_⟩
  refine wpAny_Call_Name_kw (ld_blt I hg hm PyProof.Rows.boot_zip ?_)
  refine PySem.W.callWith_of (P := fun _ => True) ?_ (fun h _ => looks_ty "zip" True.intro) ?_
  · show ((backTo pos (starEach _ X.env)).any (·.1) || false) = false
    rw [hs, Bool.or_false]
    exact hpl
  have he : backTo pos (starEach [e1, e2] X.env) = (false, eval e1 X.env) :: backTo pos (starEach [e2] X.env) := by rw [hs]; rfl
  rw [he]
  refine PyProof.Rows.evalArgs_kwB rfl ?_
  rw [← he]
  refine thn (ha.run pos pins s σ H _ I h) fun us s0 ⟨vs, H1, I0, r1, q1⟩ => ?_
  refine PyProof.Rows.kws_cons (Constant_bool (PyProof.Rows.kws_nil ⟨True.intro, ?_⟩))
  have I1 := I0
  obtain ⟨l, ev, el, hl, q1⟩ := q1
  subst ev
  obtain ⟨b1, b2, rfl⟩ : ∃ b1 b2 : Bool, fl = [b1, b2] := match fl, hfl with | [_, _], _ => ⟨_, _, rfl⟩
  obtain ⟨c1, c2, rfl⟩ : ∃ c1 c2 : Addr, l = [c1, c2] := match l, el with | [_, _], _ => ⟨_, _, rfl⟩
  cases r1 with
  | cons r_1 rr1 =>
    cases r_1
    cases rr1 with
    | cons r_2 rr2 =>
      cases r_2
      cases rr2
      obtain ⟨xs1, hq1⟩ := hl (b1, c1) (by simp)
      obtain ⟨its1, rv1, g1, lt1⟩ := sq_seq I1 hq1
      obtain ⟨xs2, hq2⟩ := hl (b2, c2) (by simp)
      obtain ⟨its2, rv2, g2, lt2⟩ := sq_seq I1 hq2
      have frs : ∀ c, c ∈ [s0.heap.objs.size + 4, s0.heap.objs.size + 2, s0.heap.objs.size + 3, s0.heap.objs.size, s0.heap.objs.size + 1] → FpOk X pins H1 c := fun c hcm => by
        have e : c = s0.heap.objs.size + 4 ∨ c = s0.heap.objs.size + 2 ∨ c = s0.heap.objs.size + 3 ∨ c = s0.heap.objs.size ∨ c = s0.heap.objs.size + 1 := by simpa using hcm
        have hle : s0.heap.objs.size ≤ c := by
          rcases e with q | q | q | q | q
          · rw [q]; exact Nat.le_add_right _ _
          · rw [q]; exact Nat.le_add_right _ _
          · rw [q]; exact Nat.le_add_right _ _
          · rw [q]; exact Nat.le_refl _
          · rw [q]; exact Nat.le_add_right _ _
        exact I1.fpOk hle (I1.hok.fresh hle)
      refine begins_strict2 (begins_of (b1, c1) its1) (begins_of (b2, c2) its2) g1 g2 fun hA hz hTI hTO y1 y2 kk => iter_zip hz ?_
      have I2 : Inv X pins σ H1 { s0 with heap := hA } := I1.kept (t' := s0.toks) kk
      exact ⟨_, [s0.heap.objs.size + 4, s0.heap.objs.size + 2, s0.heap.objs.size + 3, s0.heap.objs.size, s0.heap.objs.size + 1], _, _, H1, rfl, I2, turn_z2 (sep_new2 lt1 lt2) (Nat.ne_of_lt lt1) (Nat.ne_of_lt (Nat.lt_of_lt_of_le lt2 (Nat.le_add_right _ 1))), ⟨hz, hTI, ⟨_, _, hTO⟩, SqIt.begin y1, SqIt.begin y2⟩, frs, q1⟩
theorem pi_z2 {X : Cx} {e1 e2 : Expr} {ta : TA} {p pos tpos : Pos} {elts : List Expr} {kk : Nat} {fl : List Bool} (hfl : fl.length = 2) (hg : Gl X "zip") (hm : X.mg "zip" = none) (ha : PA X [e1, e2] ta)
    (hs : starEach [e1, e2] X.env = (false, eval e1 X.env) :: starEach [e2] X.env := by rfl) (hpl : (backTo pos (starEach [e2] X.env)).any (·.1) = false := by rfl) :
    PI X (.Tuple elts kk tpos) (.Call (.Name "zip" p) [e1, e2] [] pos) (iZ X.K fl ta) := by
  refine ⟨fun pins s σ H R I h => ?_⟩
  refine Call_ (ld_blt I hg hm PyProof.Rows.boot_zip (PyProof.Rows.callWith_type1 (thn (ha.run pos pins s σ H _ I h) fun us s0 ⟨vs, H1, I1, r1, q1⟩ => ?_) hs hpl))
  obtain ⟨l, ev, el, hl, q1⟩ := q1
  subst ev
  obtain ⟨b1, b2, rfl⟩ : ∃ b1 b2 : Bool, fl = [b1, b2] := match fl, hfl with | [_, _], _ => ⟨_, _, rfl⟩
  obtain ⟨c1, c2, rfl⟩ : ∃ c1 c2 : Addr, l = [c1, c2] := match l, el with | [_, _], _ => ⟨_, _, rfl⟩
  cases r1 with
  | cons r_1 rr1 =>
    cases r_1
    cases rr1 with
    | cons r_2 rr2 =>
      cases r_2
      cases rr2
      obtain ⟨xs1, hq1⟩ := hl (b1, c1) (by simp)
      obtain ⟨its1, rv1, g1, lt1⟩ := sq_seq I1 hq1
      obtain ⟨xs2, hq2⟩ := hl (b2, c2) (by simp)
      obtain ⟨its2, rv2, g2, lt2⟩ := sq_seq I1 hq2
      have frs : ∀ c, c ∈ [s0.heap.objs.size + 4, s0.heap.objs.size + 2, s0.heap.objs.size + 3, s0.heap.objs.size, s0.heap.objs.size + 1] → FpOk X pins H1 c := fun c hcm => by
        have e : c = s0.heap.objs.size + 4 ∨ c = s0.heap.objs.size + 2 ∨ c = s0.heap.objs.size + 3 ∨ c = s0.heap.objs.size ∨ c = s0.heap.objs.size + 1 := by simpa using hcm
        have hle : s0.heap.objs.size ≤ c := by
          rcases e with q | q | q | q | q
          · rw [q]; exact Nat.le_add_right _ _
          · rw [q]; exact Nat.le_add_right _ _
          · rw [q]; exact Nat.le_add_right _ _
          · rw [q]; exact Nat.le_refl _
          · rw [q]; exact Nat.le_add_right _ _
        exact I1.fpOk hle (I1.hok.fresh hle)
      refine zip_begins2 (begins_of (b1, c1) its1) (begins_of (b2, c2) its2) g1 g2 fun hA hz hTI hTO y1 y2 _ kk => iter_zip (b := false) hz ?_
      have I2 : Inv X pins σ H1 { s0 with heap := hA } := I1.kept (t' := s0.toks) kk
      exact ⟨_, [s0.heap.objs.size + 4, s0.heap.objs.size + 2, s0.heap.objs.size + 3, s0.heap.objs.size, s0.heap.objs.size + 1], _, _, H1, rfl, I2, turn_z2 (sep_new2 lt1 lt2) (Nat.ne_of_lt lt1) (Nat.ne_of_lt (Nat.lt_of_lt_of_le lt2 (Nat.le_add_right _ 1))), ⟨hz, hTI, ⟨_, _, hTO⟩, SqIt.begin y1, SqIt.begin y2⟩, frs, q1⟩
theorem turn_z3 {P : Program} {w : World} {K : PySem.W.Frag} {elts : List Expr} {kk : Nat} {tpos : Pos} {z TI TO i1 i2 i3 : Addr} {p1 p2 p3 : Bool × Addr} {b : Bool} (S : Sep3 z TI TO i1 i2 i3 [i1, p1.2] [i2, p2.2] [i3, p3.2]) (ne1 : p1.2 ≠ i1) (ne2 : p2.2 ≠ i2) (ne3 : p3.2 ≠ i3) :
    Turn P w K (.Tuple elts kk tpos) (ItZ K [p1, p2, p3]) [z, TI, TO, i1, i2, i3] z (fun i h => ZipO h z TI TO .none b ∧ TupO h TI #[.ref i1, .ref i2, .ref i3] ∧ (∃ a1 a2 a3, TupO h TO #[a1, a2, a3]) ∧ SqIt h i1 p1 i ∧ SqIt h i2 p2 i ∧ SqIt h i3 p3 i) where
  mem := by simp
  obj := fun i h st c hc => by
    obtain ⟨hz, hTI, ⟨a1, a2, a3, hTO⟩, h1, h2, h3⟩ := st
    have e : c = z ∨ c = TI ∨ c = TO ∨ c = i1 ∨ c = i2 ∨ c = i3 := by simpa using hc
    rcases e with q | q | q | q | q | q
    · rw [q]; exact ⟨_, hz, fun v q => nomatch q⟩
    · rw [q]; exact ⟨_, hTI, fun v q => nomatch q⟩
    · rw [q]; exact ⟨_, hTO, fun v q => nomatch q⟩
    · rw [q]; exact h1.obj
    · rw [q]; exact h2.obj
    · rw [q]; exact h3.obj
  keep := fun i h h2 st k => by
    obtain ⟨hz, hTI, ⟨a1, a2, a3, hTO⟩, h1, h2, h3⟩ := st
    exact ⟨k z (by simp) _ hz, k TI (by simp) _ hTI, ⟨a1, a2, a3, k TO (by simp) _ hTO⟩, h1.at fun o q => k i1 (by simp) o q, h2.at fun o q => k i2 (by simp) o q, h3.at fun o q => k i3 (by simp) o q⟩
  item := by
    intro X hP hw hK hc i pins s σ H E I hf st hg
    subst hP hw hK
    obtain ⟨hz, hTI, ⟨a1, a2, a3, hTO⟩, h1, h2, h3⟩ := st
    obtain ⟨vs, hv⟩ := hg
    cases hv with
    | cons r1 hv1 =>
      rename_i v1 ws1
      obtain ⟨xs1, hq1, hx1⟩ := r1
      obtain ⟨its1, rv1, q1, _⟩ := sq_seq I hq1
      obtain ⟨u1, hu1, ru1⟩ := rv1.get hx1
      have g1 : its1.toArray[i]? = some u1 := by simpa using hu1
      have l1 : i < its1.toArray.size := by have := (List.getElem?_eq_some_iff.mp hu1).1; simpa using this
      cases hv1 with
      | cons r2 hv2 =>
        rename_i v2 ws2
        obtain ⟨xs2, hq2, hx2⟩ := r2
        obtain ⟨its2, rv2, q2, _⟩ := sq_seq I hq2
        obtain ⟨u2, hu2, ru2⟩ := rv2.get hx2
        have g2 : its2.toArray[i]? = some u2 := by simpa using hu2
        have l2 : i < its2.toArray.size := by have := (List.getElem?_eq_some_iff.mp hu2).1; simpa using this
        cases hv2 with
        | cons r3 hv3 =>
          rename_i v3 ws3
          obtain ⟨xs3, hq3, hx3⟩ := r3
          obtain ⟨its3, rv3, q3, _⟩ := sq_seq I hq3
          obtain ⟨u3, hu3, ru3⟩ := rv3.get hx3
          have g3 : its3.toArray[i]? = some u3 := by simpa using hu3
          have l3 : i < its3.toArray.size := by have := (List.getElem?_eq_some_iff.mp hu3).1; simpa using this
          cases hv3
          have hzl : z < s.heap.objs.size := Heap.lt_size hz
          refine py_item3 S (draws_of (A := X.A.in1) (I.ok.hd hc) i1 p1 ne1 its1) (draws_of (A := X.A.in1) (I.ok.hd hc) i2 p2 ne2 its2) (draws_of (A := X.A.in1) (I.ok.hd hc) i3 p3 ne3 its3) hz hTI hTO ⟨h1, q1⟩ ⟨h2, q2⟩ ⟨h3, q3⟩ l1 l2 l3 fun x1 x2 x3 hA tk y1 y2 y3 z2 TO2 n1 n2 n3 hT hk => ?_
          obtain rfl : u1 = x1 := Option.some.inj (g1.symm.trans y1)
          obtain rfl : u2 = x2 := Option.some.inj (g2.symm.trans y2)
          obtain rfl : u3 = x3 := Option.some.inj (g3.symm.trans y3)
          refine ⟨_, rfl, go_zip (s := { s with heap := hA, toks := tk }) z2 fun hB z3 sb => ?_⟩
          replace sb : Heap.SameBut z hA hB := sb
          have hT2 : hB.get? s.heap.objs.size = some { cls := .type "tuple", data := .seq #[u1, u2, u3] } := (sb.2 _ (Nat.ne_of_gt hzl)).trans hT
          have new : ObjOk X.prog X.w (upd H s.heap.objs.size (.tup [v1, v2, v3])) hB s.heap.objs.size (.tup [v1, v2, v3]) := ⟨by show 3 ≤ sizeLine; decide, [u1, u2, u3], (.cons ru1 (.cons ru2 (.cons ru3 .nil))), ⟨_, hT2, rfl, _, rfl⟩⟩
          have I1 : Inv X pins σ (upd H s.heap.objs.size (.tup [v1, v2, v3])) { s with heap := hB, toks := tk } := I.turnedNew (t' := tk) (ch := [z, TI, TO, i1, i2, i3]) (fun c o hb q => (sb.2 c (fun q => hb (by simp [q]))).trans (hk c o (fun q => hb (by simp [q])) (fun q => hb (by simp [q])) (fun q => hb (by simp [q])) (fun q => hb (by simp [q])) (fun q => hb (by simp [q])) q)) hf (Nat.le_refl _) new
          refine ⟨.ref s.heap.objs.size, _, I1, rfl, ⟨_, _, rfl, I.hok.fresh (Nat.le_refl _), rfl, (.cons (fun l hl => by rw [sq_inj I hl hq1]; exact hx1) (.cons (fun l hl => by rw [sq_inj I hl hq2]; exact hx2) (.cons (fun l hl => by rw [sq_inj I hl hq3]; exact hx3) .nil)))⟩, ⟨z3, (sb.2 _ S.zTI.symm).trans (hk _ _ S.zTI.symm S.TOTI.symm S.I1 S.I2 S.I3 hTI), ⟨u1, u2, u3, (sb.2 _ S.zTO.symm).trans TO2⟩, (n1.1.at fun o q => (sb.2 _ (fun q => S.z1 (by rw [← q]; exact S.m1))).trans q), (n2.1.at fun o q => (sb.2 _ (fun q => S.z2 (by rw [← q]; exact S.m2))).trans q), (n3.1.at fun o q => (sb.2 _ (fun q => S.z3 (by rw [← q]; exact S.m3))).trans q)⟩, fun c hcm => ?_⟩
          have hlt : c < s.heap.objs.size := by
            have e : c = z ∨ c = TI ∨ c = TO ∨ c = i1 ∨ c = i2 ∨ c = i3 := by simpa using hcm
            rcases e with q | q | q | q | q | q
            · rw [q]; exact hzl
            · rw [q]; exact Heap.lt_size hTI
            · rw [q]; exact Heap.lt_size hTO
            · rw [q]; obtain ⟨_, e1, _⟩ := h1.obj; exact Heap.lt_size e1
            · rw [q]; obtain ⟨_, e1, _⟩ := h2.obj; exact Heap.lt_size e1
            · rw [q]; obtain ⟨_, e1, _⟩ := h3.obj; exact Heap.lt_size e1
          rw [upd_ne (Nat.ne_of_lt hlt)]
          exact (hf c hcm).1
  done := by
    intro X hP hw hK hc i pins s σ H E I hf st hg
    subst hP hw hK
    obtain ⟨hz, hTI, ⟨a1, a2, a3, hTO⟩, h1, h2, h3⟩ := st
    obtain ⟨xs1, hq1, hx1⟩ := hg p1 (by simp)
    obtain ⟨its1, rv1, q1, _⟩ := sq_seq I hq1
    have l1 : its1.toArray.size = i := by have := rv1.length; simp; omega
    have D1 := draws_of (prog := X.prog) (w := X.w) (A := X.A.in1) (I.ok.hd hc) i1 p1 ne1 its1
    rw [l1] at D1
    obtain ⟨xs2, hq2, hx2⟩ := hg p2 (by simp)
    obtain ⟨its2, rv2, q2, _⟩ := sq_seq I hq2
    have l2 : its2.toArray.size = i := by have := rv2.length; simp; omega
    have D2 := draws_of (prog := X.prog) (w := X.w) (A := X.A.in1) (I.ok.hd hc) i2 p2 ne2 its2
    rw [l2] at D2
    obtain ⟨xs3, hq3, hx3⟩ := hg p3 (by simp)
    obtain ⟨its3, rv3, q3, _⟩ := sq_seq I hq3
    have l3 : its3.toArray.size = i := by have := rv3.length; simp; omega
    have D3 := draws_of (prog := X.prog) (w := X.w) (A := X.A.in1) (I.ok.hd hc) i3 p3 ne3 its3
    rw [l3] at D3
    exact py_end3 (I.ok.hd hc) S D1 D2 D3 hz hTI hTO ⟨h1, q1⟩ ⟨h2, q2⟩ ⟨h3, q3⟩ fun h2 hk => ⟨rfl, I.turnedL (t' := s.toks) (ch := [z, TI, TO, i1, i2, i3]) (fun c o hb q => hk c o (fun q => hb (by simp [q])) (fun q => hb (by simp [q])) (fun q => hb (by simp [q])) (fun q => hb (by simp [q])) (fun q => hb (by simp [q])) q) hf⟩
  self := fun A i s Q E st h => iter_zip st.1 h
theorem sep_new3 {M : Nat} {p1 p2 p3 : Bool × Addr} (h1 : p1.2 < M) (h2 : p2.2 < M) (h3 : p3.2 < M) : Sep3 (M + 5) (M + 3) (M + 4) M (M + 1) (M + 2) [M, p1.2] [M + 1, p2.2] [M + 2, p3.2] where
  zTO := by show (M + 5 : Nat) ≠ M + 4; omega
  zTI := by show (M + 5 : Nat) ≠ M + 3; omega
  TOTI := by show (M + 4 : Nat) ≠ M + 3; omega
  m1 := by simp
  z1 := nin_new (a := p1.2) 5 0 h1 (by decide)
  T1 := nin_new (a := p1.2) 4 0 h1 (by decide)
  I1 := by show (M + 3 : Nat) ≠ M; omega
  s2_1 := nin_new (a := p1.2) 1 0 h1 (by decide)
  s3_1 := nin_new (a := p1.2) 2 0 h1 (by decide)
  m2 := by simp
  z2 := nin_new (a := p2.2) 5 1 h2 (by decide)
  T2 := nin_new (a := p2.2) 4 1 h2 (by decide)
  I2 := by show (M + 3 : Nat) ≠ M + 1; omega
  s1_2 := nin_new (a := p2.2) 0 1 h2 (by decide)
  s3_2 := nin_new (a := p2.2) 2 1 h2 (by decide)
  m3 := by simp
  z3 := nin_new (a := p3.2) 5 2 h3 (by decide)
  T3 := nin_new (a := p3.2) 4 2 h3 (by decide)
  I3 := by show (M + 3 : Nat) ≠ M + 2; omega
  s1_3 := nin_new (a := p3.2) 0 2 h3 (by decide)
  s2_3 := nin_new (a := p3.2) 1 2 h3 (by decide)
theorem pi_z3s {X : Cx} {e1 e2 e3 : Expr} {ta : TA} {p pos tpos : Pos} {elts : List Expr} {kk : Nat} {jj : Nat} {kp kp2 : Pos} {fl : List Bool} (hfl : fl.length = 3) (hg : Gl X "zip") (hm : X.mg "zip" = none) (ha : PA X [e1, e2, e3] ta)
    (hs : starEach [e1, e2, e3] X.env = (false, eval e1 X.env) :: starEach [e2, e3] X.env := by rfl) (hpl : (backTo pos (starEach [e2, e3] X.env)).any (·.1) = false := by rfl) :
    PI X (.Tuple elts kk tpos) (.Call (.Name "zip" p) [e1, e2, e3] [⟨some "strict", .Constant (.bool true) jj kp, kp2⟩] pos) (iZ X.K fl ta) := by
  refine ⟨fun pins s σ H R I h => ?_⟩
  refine wpAny_Call_Name_kw (ld_blt I hg hm PyProof.Rows.boot_zip ?_)
  refine PySem.W.callWith_of (P := fun _ => True) ?_ (fun h _ => looks_ty "zip" True.intro) ?_
  · show ((backTo pos (starEach _ X.env)).any (·.1) || false) = false
    rw [hs, Bool.or_false]
    exact hpl
  have he : backTo pos (starEach [e1, e2, e3] X.env) = (false, eval e1 X.env) :: backTo pos (starEach [e2, e3] X.env) := by rw [hs]; rfl
  rw [he]
  refine PyProof.Rows.evalArgs_kwB rfl ?_
  rw [← he]
  refine thn (ha.run pos pins s σ H _ I h) fun us s0 ⟨vs, H1, I0, r1, q1⟩ => ?_
  refine PyProof.Rows.kws_cons (Constant_bool (PyProof.Rows.kws_nil ⟨True.intro, ?_⟩))
  have I1 := I0
  obtain ⟨l, ev, el, hl, q1⟩ := q1
  subst ev
  obtain ⟨b1, b2, b3, rfl⟩ : ∃ b1 b2 b3 : Bool, fl = [b1, b2, b3] := match fl, hfl with | [_, _, _], _ => ⟨_, _, _, rfl⟩
  obtain ⟨c1, c2, c3, rfl⟩ : ∃ c1 c2 c3 : Addr, l = [c1, c2, c3] := match l, el with | [_, _, _], _ => ⟨_, _, _, rfl⟩
  cases r1 with
  | cons r_1 rr1 =>
    cases r_1
    cases rr1 with
    | cons r_2 rr2 =>
      cases r_2
      cases rr2 with
      | cons r_3 rr3 =>
        cases r_3
        cases rr3
        obtain ⟨xs1, hq1⟩ := hl (b1, c1) (by simp)
        obtain ⟨its1, rv1, g1, lt1⟩ := sq_seq I1 hq1
        obtain ⟨xs2, hq2⟩ := hl (b2, c2) (by simp)
        obtain ⟨its2, rv2, g2, lt2⟩ := sq_seq I1 hq2
        obtain ⟨xs3, hq3⟩ := hl (b3, c3) (by simp)
        obtain ⟨its3, rv3, g3, lt3⟩ := sq_seq I1 hq3
        have frs : ∀ c, c ∈ [s0.heap.objs.size + 5, s0.heap.objs.size + 3, s0.heap.objs.size + 4, s0.heap.objs.size, s0.heap.objs.size + 1, s0.heap.objs.size + 2] → FpOk X pins H1 c := fun c hcm => by
          have e : c = s0.heap.objs.size + 5 ∨ c = s0.heap.objs.size + 3 ∨ c = s0.heap.objs.size + 4 ∨ c = s0.heap.objs.size ∨ c = s0.heap.objs.size + 1 ∨ c = s0.heap.objs.size + 2 := by simpa using hcm
          have hle : s0.heap.objs.size ≤ c := by
            rcases e with q | q | q | q | q | q
            · rw [q]; exact Nat.le_add_right _ _
            · rw [q]; exact Nat.le_add_right _ _
            · rw [q]; exact Nat.le_add_right _ _
            · rw [q]; exact Nat.le_refl _
            · rw [q]; exact Nat.le_add_right _ _
            · rw [q]; exact Nat.le_add_right _ _
          exact I1.fpOk hle (I1.hok.fresh hle)
        refine begins_strict3 (begins_of (b1, c1) its1) (begins_of (b2, c2) its2) (begins_of (b3, c3) its3) g1 g2 g3 fun hA hz hTI hTO y1 y2 y3 kk => iter_zip hz ?_
        have I2 : Inv X pins σ H1 { s0 with heap := hA } := I1.kept (t' := s0.toks) kk
        exact ⟨_, [s0.heap.objs.size + 5, s0.heap.objs.size + 3, s0.heap.objs.size + 4, s0.heap.objs.size, s0.heap.objs.size + 1, s0.heap.objs.size + 2], _, _, H1, rfl, I2, turn_z3 (sep_new3 lt1 lt2 lt3) (Nat.ne_of_lt lt1) (Nat.ne_of_lt (Nat.lt_of_lt_of_le lt2 (Nat.le_add_right _ 1))) (Nat.ne_of_lt (Nat.lt_of_lt_of_le lt3 (Nat.le_add_right _ 2))), ⟨hz, hTI, ⟨_, _, _, hTO⟩, SqIt.begin y1, SqIt.begin y2, SqIt.begin y3⟩, frs, q1⟩
theorem pi_z3 {X : Cx} {e1 e2 e3 : Expr} {ta : TA} {p pos tpos : Pos} {elts : List Expr} {kk : Nat} {fl : List Bool} (hfl : fl.length = 3) (hg : Gl X "zip") (hm : X.mg "zip" = none) (ha : PA X [e1, e2, e3] ta)
    (hs : starEach [e1, e2, e3] X.env = (false, eval e1 X.env) :: starEach [e2, e3] X.env := by rfl) (hpl : (backTo pos (starEach [e2, e3] X.env)).any (·.1) = false := by rfl) :
    PI X (.Tuple elts kk tpos) (.Call (.Name "zip" p) [e1, e2, e3] [] pos) (iZ X.K fl ta) := by
  refine ⟨fun pins s σ H R I h => ?_⟩
  refine Call_ (ld_blt I hg hm PyProof.Rows.boot_zip (PyProof.Rows.callWith_type1 (thn (ha.run pos pins s σ H _ I h) fun us s0 ⟨vs, H1, I1, r1, q1⟩ => ?_) hs hpl))
  obtain ⟨l, ev, el, hl, q1⟩ := q1
  subst ev
  obtain ⟨b1, b2, b3, rfl⟩ : ∃ b1 b2 b3 : Bool, fl = [b1, b2, b3] := match fl, hfl with | [_, _, _], _ => ⟨_, _, _, rfl⟩
  obtain ⟨c1, c2, c3, rfl⟩ : ∃ c1 c2 c3 : Addr, l = [c1, c2, c3] := match l, el with | [_, _, _], _ => ⟨_, _, _, rfl⟩
  cases r1 with
  | cons r_1 rr1 =>
    cases r_1
    cases rr1 with
    | cons r_2 rr2 =>
      cases r_2
      cases rr2 with
      | cons r_3 rr3 =>
        cases r_3
        cases rr3
        obtain ⟨xs1, hq1⟩ := hl (b1, c1) (by simp)
        obtain ⟨its1, rv1, g1, lt1⟩ := sq_seq I1 hq1
        obtain ⟨xs2, hq2⟩ := hl (b2, c2) (by simp)
        obtain ⟨its2, rv2, g2, lt2⟩ := sq_seq I1 hq2
        obtain ⟨xs3, hq3⟩ := hl (b3, c3) (by simp)
        obtain ⟨its3, rv3, g3, lt3⟩ := sq_seq I1 hq3
        have frs : ∀ c, c ∈ [s0.heap.objs.size + 5, s0.heap.objs.size + 3, s0.heap.objs.size + 4, s0.heap.objs.size, s0.heap.objs.size + 1, s0.heap.objs.size + 2] → FpOk X pins H1 c := fun c hcm => by
          have e : c = s0.heap.objs.size + 5 ∨ c = s0.heap.objs.size + 3 ∨ c = s0.heap.objs.size + 4 ∨ c = s0.heap.objs.size ∨ c = s0.heap.objs.size + 1 ∨ c = s0.heap.objs.size + 2 := by simpa using hcm
          have hle : s0.heap.objs.size ≤ c := by
            rcases e with q | q | q | q | q | q
            · rw [q]; exact Nat.le_add_right _ _
            · rw [q]; exact Nat.le_add_right _ _
            · rw [q]; exact Nat.le_add_right _ _
            · rw [q]; exact Nat.le_refl _
            · rw [q]; exact Nat.le_add_right _ _
            · rw [q]; exact Nat.le_add_right _ _
          exact I1.fpOk hle (I1.hok.fresh hle)
        refine zip_begins3 (begins_of (b1, c1) its1) (begins_of (b2, c2) its2) (begins_of (b3, c3) its3) g1 g2 g3 fun hA hz hTI hTO y1 y2 y3 _ kk => iter_zip (b := false) hz ?_
        have I2 : Inv X pins σ H1 { s0 with heap := hA } := I1.kept (t' := s0.toks) kk
        exact ⟨_, [s0.heap.objs.size + 5, s0.heap.objs.size + 3, s0.heap.objs.size + 4, s0.heap.objs.size, s0.heap.objs.size + 1, s0.heap.objs.size + 2], _, _, H1, rfl, I2, turn_z3 (sep_new3 lt1 lt2 lt3) (Nat.ne_of_lt lt1) (Nat.ne_of_lt (Nat.lt_of_lt_of_le lt2 (Nat.le_add_right _ 1))) (Nat.ne_of_lt (Nat.lt_of_lt_of_le lt3 (Nat.le_add_right _ 2))), ⟨hz, hTI, ⟨_, _, _, hTO⟩, SqIt.begin y1, SqIt.begin y2, SqIt.begin y3⟩, frs, q1⟩
end CZ

namespace CS
open PySem PySem.Spec PyProof.Rows L2
/-! ### rules beside the layer's -/
section
variable {X : Cx}
/-- a product, whatever the reason that it fits -/
theorem op_mulI : OpR X (binaryOp .Mult) (rI IntMulOk fun i j => .int (i * j)) := opI fun _ _ _ _ _ _ _ hc q => mul_int q hc
/-- list + list, however each is known -/
def rCatR (K : PySem.W.Frag) : R2 := fun x y H Q => ∃ l b xs zs, x = .ref l ∧ y = .ref b ∧ SqL K H l xs ∧ SqL K H b zs ∧ xs.length + zs.length ≤ sizeLine ∧ ∀ p, H p = none → Q (.ref p) (upd H p (.lst (xs ++ zs)))
theorem op_catR : OpR X (binaryOp .Add) (rCatR X.K) := by
  intro pins s σ H x y v u Q I rx ry h
  obtain ⟨l, b, xs, zs, rfl, rfl, hH, hB, hz, q⟩ := h
  cases rx
  cases ry
  obtain ⟨its, r, p1, _⟩ := I.list hH
  obtain ⟨its2, r2, p2, _⟩ := I.list hB
  obtain ⟨⟨cls, dd, data, sl⟩, ho, hc, n, hd⟩ := id p1.isList
  obtain ⟨⟨cls2, dd2, data2, sl2⟩, ho2, hc2, n2, hd2⟩ := id p2.isList
  simp only at hc hd hc2 hd2
  subst hc hd hc2 hd2
  have l1 := r.length
  have l2 := r2.length
  have ea : its.toArray ++ its2.toArray = (its ++ its2).toArray := by simp
  refine concat_meets ⟨_, ho, rfl⟩ ⟨_, ho2, rfl⟩ noFill_list_add seq_list_add PySem.F.slot_list_add PySem.F.entry_list_add (PySem.F.args_list_add_2 _ _) (list_addW l b its.toArray its2.toArray n n2 dd dd2 sl sl2 (by rw [List.size_toArray, List.size_toArray]; omega)) ⟨ho, ho2, ?_⟩
  rw [ea]
  exact ⟨.ref _, _, I.lnew (t' := s.toks) (r.append r2) (by rw [List.length_append]; omega), rfl, q _ I.fresh⟩
theorem pi_or {tg it : Expr} {w1 w2 : TI} (h1 : PI X tg it w1) (h2 : PI X tg it w2) : PI X tg it (fun σ H R => w1 σ H R ∨ w2 σ H R) :=
  ⟨fun pins s σ H R I h => h.elim (fun z => h1.run pins s σ H R I z) fun z => h2.run pins s σ H R I z⟩
end
/-! ### calls by keywords alone -/
def pick {α : Type} (js : List Nat) (l : List α) : List α := js.filterMap fun j => l[j]?
theorem vals_pick {xs : List V} {us : List Value} (r : Vals xs us) : ∀ js : List Nat, Vals (pick js xs) (pick js us)
  | [] => .nil
  | j :: js => by
    have ih := vals_pick r js
    unfold pick at ih ⊢
    cases e : xs[j]? with
    | none =>
      have e2 := r.none_of e
      rw [List.filterMap_cons_none (by rw [e]), List.filterMap_cons_none (by rw [e2])]
      exact ih
    | some x =>
      obtain ⟨u, e2, ru⟩ := r.get e
      rw [List.filterMap_cons_some (by rw [e]), List.filterMap_cons_some (by rw [e2])]
      exact .cons ru ih
theorem kbn_of {K : PySem.W.Frag} {x qual : Str} {st : Stmt} {f : Addr} {fd : FuncData} {ps : List Str} (F : Fun K x qual st f fd) (n : Nat) (ks : List Str) (js : List Nat)
    (h : ∀ (kV doc pm : Value) (an : Option Addr) (cdv ct : Value) (us ws : List Value), us.length = n → ws.length = ks.length → bindArgs (PySem.W.fnOf x qual (defArgs st) (defBody st) (defScope st) .none kV doc pm an cdv ct) ⟨us, ks.zip ws⟩ = pure (ps.zip (pick js (us ++ ws)))) :
    KBn K fd ps n ks (fun us ws => pick js (us ++ ws)) (fun vs zs => pick js (vs ++ zs)) := by
  obtain ⟨oc, od, kV, doc, pm, an, cdv, ct, osl, rfl, lk, hcd⟩ := F.ex
  exact ⟨fun s us ws _ h1 h2 => .of_eq (h kV doc pm an cdv ct us ws h1 h2), fun r1 r2 => vals_pick (r1.append r2) js⟩
section
variable {X : Cx} {CX : CXT} {k n : Nat} {f C : Addr} {fd : FuncData} {ps ks : List Str} {sp : Sp} {E : XK} {x m : Str} {p pos apos : Pos} {o : Expr} {kws : List Keyword} {ta : TE} {tk : TA} {g : List Value → List Value → List Value} {gV : List V → List V → List V}
theorem run_kw {pins : List (Addr × Obj)} {σ : L2.St} {H : Hp} {s : Shared} {Q : VK} {us ws : List Value} {vs zs : List V} (F : FnOk X.prog X.w X.K X.mg X.base CX k f fd ps sp) (hr : Room k X.A) (hb : KBn X.K fd ps n ks g gV) (hx : Passes CX X E)
    (I : Inv X pins σ H s) (r : Vals vs us) (rz : Vals zs ws) (l1 : vs.length = n) (l2 : zs.length = ks.length) (h : sp (gV vs zs) H Q E) : wpAny (model X.prog X.w) X.A (call (.ref f) us (ks.zip ws)) (EP X pins σ Q) X.xe s := by
  refine wpAny_call (codeAny_mono (F.run X.A X.stack s H ⟨us, ks.zip ws⟩ (g us ws) (gV vs zs) Q E hr I.env0 (hb.to s us ws I.kIn (r.length.symm.trans l1) (rz.length.symm.trans l2)) (hb.rel r rz) h) fun res s2 hq => ?_)
  cases res with
  | error e => exact hx pins σ H s e s2 I hq
  | ok fl =>
    cases fl with
    | ret u => exact I.after hq
    | next => exact False.elim hq
    | brk => exact False.elim hq
    | cont => exact False.elim hq
/-- f(k = v, ..) -/
def tCallKw (m : Nat) (sp : Sp) (gV : List V → List V → List V) (E : XK) (tk : TA) : TE := fun σ H Q => tk σ H fun zs H1 => zs.length = m ∧ sp (gV [] zs) H1 Q E
theorem pe_callKw (F : FnOk X.prog X.w X.K X.mg X.base CX k f fd ps sp) (hr : Room k X.A) (hg : Gl X x) (hm : X.mg x = some (.ref f)) (hk : PySem.W.keepIn X.K (.ref f) = true) (hb : KBn X.K fd ps 0 ks g gV) (hx : Passes CX X E) (hkw : PK X kws tk)
    (hall : (backToKw pos (keywordEach kws X.env)).all (·.1.isSome) = true := by rfl) (hks : (backToKw pos (keywordEach kws X.env)).filterMap (·.1) = ks := by rfl) (hdb : (x == ("__debug__" : Str)) = false := by decide)
    (hpl : ((backTo pos (starEach [] X.env)).any (·.1) || (backToKw pos (keywordEach kws X.env)).any (·.1.isNone)) = false := by rfl) :
    PE X (.Call (.Name x p) [] kws pos) (tCallKw ks.length sp gV E tk) := by
  refine ⟨fun pins s σ H Q I h => ?_⟩
  refine wpAny_Call_Name_kw (ld_glob I hg hm ?_ hdb)
  refine PySem.W.callWith_KW0 (h₀ := X.base) I.ok.mod.kin hk hall (thn (hkw.run pos pins s σ H _ I h) fun ws s2 ⟨zs, H2, I2, rz, l2, q2⟩ => ⟨I2.kIn, ?_⟩) hpl
  rw [hks]
  exact run_kw (us := []) (vs := []) F hr hb hx I2 .nil rz rfl l2 q2
/-- o.m(k = v, ..) -/
def tMethKw (C : Addr) (m : Str) (n : Nat) (sp : Sp) (gV : List V → List V → List V) (E : XK) (ta : TE) (tk : TA) : TE := fun σ H Q => ta σ H fun x H1 => ∃ a dx fs, x = .ref a ∧ H1 a = some (.ins C dx fs) ∧ fs.lookup m = none ∧
  tk σ H1 fun zs H2 => zs.length = n ∧ sp (gV [x] zs) H2 Q E
theorem pe_methKw {pl : Sem Bool} (he : PE X o ta) (c : Cls X.K C) (hm : Meth X.K C m f) (F : FnOk X.prog X.w X.K X.mg X.base CX k f fd ps sp) (hr : Room k X.A) (hb : KBn X.K fd ps 1 ks g gV) (hx : Passes CX X E) (hkw : PK X kws tk)
    (hall : (backToKw pos (keywordEach kws X.env)).all (·.1.isSome) = true := by rfl) (hks : (backToKw pos (keywordEach kws X.env)).filterMap (·.1) = ks := by rfl)
    (hpl : ((backTo pos (starEach [] X.env)).any (·.1) || (backToKw pos (keywordEach kws X.env)).any (·.1.isNone)) = false := by rfl)
    (ht : eval (.Call (.Attribute o m apos) [] kws pos) X.env = (do
      let ov ← eval o X.env
      standAt apos.atName
      let (f, first) ← holding [ov] (getMethod ov m pl)
      callWith pos f first (backTo pos (starEach [] X.env)) (backToKw pos (keywordEach kws X.env))) := by rfl) :
    PE X (.Call (.Attribute o m apos) [] kws pos) (tMethKw C m ks.length sp gV E ta tk) := by
  refine ⟨fun pins s σ H Q I h => ?_⟩
  refine PySem.W.methodCall_KW (pl := pl) (thn (he.run pins s σ H _ I h) fun u s1 ⟨x, H1, I1, rx, a, dx, fs, ex, ea, l, q⟩ => ?_) ht
  subst ex
  obtain rfl : u = Value.ref a := rx
  refine getmeth_ok I1 ea c hm l ?_
  refine PySem.W.callWith_KW0 (first := [.ref a]) (h₀ := X.base) I.ok.mod.kin hm.kp hall (thn (hkw.run pos pins s1 σ H1 _ I1 q) fun ws s2 ⟨zs, H2, I2, rz, l2, q2⟩ => ⟨I2.kIn, ?_⟩) hpl
  rw [hks]
  exact run_kw (us := [.ref a]) (vs := [.ref a]) F hr hb hx I2 (.cons rfl .nil) rz rfl l2 q2
end
/-! ### heaps that grow -/
abbrev Ex (H H2 : Hp) : Prop := Evl.Ex H H2
theorem exr {H : Hp} : Ex H H := fun _ _ h => h
theorem exn {H : Hp} {p : Addr} {o : HO} (h : H p = none) : Ex H (upd H p o) := Evl.Ex.new h
theorem SqK.mono {K : PySem.W.Frag} {H H2 : Hp} {p : Bool × Addr} {xs : List V} (e : Ex H H2) (h : CZ.SqK K H p xs) : CZ.SqK K H2 p xs := by
  obtain ⟨b, a⟩ := p
  cases b
  · exact Evl.ex_l e h
  · exact Evl.ex_t e h
/-- a comprehension whose element and tests leave all that stood: out i is what stands behind i turns -/
theorem lc_out {J : It} {n : Nat} {G : Hp → Prop} {Y : Nat → Hp → V → Hp → Prop} (w : Walk J n G Y) {g : TG} {tt : TT} {te : TE} {vs : List Nat} {σ : L2.St} {H1 : Hp} {D : Addr} {Qd : Hp → Prop} (out : Nat → List V) (h0 : out 0 = []) (hD : H1 D = none)
    (hlen : ∀ i, i < n → (out i).length < sizeLine) (hG : ∀ H, Ex H1 H → G H)
    (hs : ∀ i x H H2 (Nx : Hp → Prop), i < n → Ex H1 H → H D = some (.lst (out i)) → Y i H x H2 →
      (∀ y H5, Ex H H5 → out (i + 1) = out i ++ [y] → ∃ acc, H5 D = some (.lst acc) ∧ acc.length < sizeLine ∧ Nx (upd H5 D (.lst (acc ++ [y])))) → (∀ H4, Ex H H4 → out (i + 1) = out i → Nx H4) →
      g x (wipe σ vs) H2 fun σ2 H3 => wipe σ2 vs = wipe σ vs ∧ tt σ2 H3 fun b H4 => if b = true then te σ2 H4 fun y H5 => ∃ acc, H5 D = some (.lst acc) ∧ acc.length < sizeLine ∧ Nx (upd H5 D (.lst (acc ++ [y]))) else Nx H4)
    (hd : ∀ H, Ex H1 H → H D = some (.lst (out n)) → Qd H) :
    ∃ W : Nat → Nat → Hp → Prop, (∃ m, W 0 m (upd H1 D (.lst []))) ∧ ∀ i m H, W i m H →
      (J.stop i H ∧ Qd H) ∨ (J.go i H ∧ ∃ Nx : Hp → Prop, (∀ H2, Nx H2 → ∃ m2, m2 < m ∧ W (i + 1) m2 H2) ∧ ∀ x H2, J.yld i H x H2 → g x (wipe σ vs) H2 fun σ2 H3 => wipe σ2 vs = wipe σ vs ∧ tt σ2 H3 fun b H4 =>
        if b = true then te σ2 H4 fun y H5 => ∃ acc, H5 D = some (.lst acc) ∧ acc.length < sizeLine ∧ Nx (upd H5 D (.lst (acc ++ [y]))) else Nx H4) := by
  refine lc_it w (fun i H => Ex H1 H ∧ H D = some (.lst (out i))) ⟨exn hD, by rw [upd_same, h0]⟩ (fun i H _ p => hG H p.1) (fun i x H H2 hi p y => ?_) (fun H p => hd H p.1 p.2)
  refine hs i x H H2 _ hi p.1 p.2 y (fun y2 H5 e eo => ⟨out i, e D _ p.2, hlen i hi, fun b o q => ?_, by rw [upd_same, eo]⟩) (fun H4 e eo => ⟨fun b o q => e b o (p.1 b o q), by rw [eo]; exact e D _ p.2⟩)
  rw [upd_ne (ne_of_none q hD)]
  exact e b o (p.1 b o q)
/-- .. whose list is known: vals -/
theorem lc_vals {J : It} {n : Nat} {G : Hp → Prop} {Y : Nat → Hp → V → Hp → Prop} (w : Walk J n G Y) {g : TG} {te : TE} {vs : List Nat} {σ : L2.St} {H1 : Hp} {D : Addr} {Qd : Hp → Prop} (vals : List V) (hn : vals.length = n) (hl : n ≤ 10000000) (hD : H1 D = none)
    (hG : ∀ H, Ex H1 H → G H)
    (hs : ∀ i x H H2 (R : VK), i < n → Ex H1 H → Y i H x H2 → (∀ y H5, Ex H H5 → vals[i]? = some y → R y H5) → g x (wipe σ vs) H2 fun σ2 H3 => wipe σ2 vs = wipe σ vs ∧ te σ2 H3 R)
    (hg : ∀ x σ2 H2 (R R2 : L2.St → Hp → Prop), (∀ σ3 H3, R σ3 H3 → R2 σ3 H3) → g x σ2 H2 R → g x σ2 H2 R2)
    (hd : ∀ H, Ex H1 H → H D = some (.lst vals) → Qd H) :
    ∃ W : Nat → Nat → Hp → Prop, (∃ m, W 0 m (upd H1 D (.lst []))) ∧ ∀ i m H, W i m H →
      (J.stop i H ∧ Qd H) ∨ (J.go i H ∧ ∃ Nx : Hp → Prop, (∀ H2, Nx H2 → ∃ m2, m2 < m ∧ W (i + 1) m2 H2) ∧ ∀ x H2, J.yld i H x H2 → g x (wipe σ vs) H2 fun σ2 H3 => wipe σ2 vs = wipe σ vs ∧ tYes σ2 H3 fun b H4 =>
        if b = true then te σ2 H4 fun y H5 => ∃ acc, H5 D = some (.lst acc) ∧ acc.length < sizeLine ∧ Nx (upd H5 D (.lst (acc ++ [y]))) else Nx H4) := by
  refine lc_out w (fun i => vals.take i) rfl hD (fun i hi => ?_) hG (fun i x H H2 Nx hi e hDi y kA _ => ?_) (fun H e h => hd H e ?_)
  · rw [List.length_take]
    exact Nat.lt_of_le_of_lt (Nat.le_trans (Nat.min_le_right _ _) (by rw [hn]; exact hl)) (by decide)
  · refine hg _ _ _ _ _ (fun σ3 H3 q => ⟨q.1, ?_⟩) (hs i x H H2 (fun y H5 => ∃ acc, H5 D = some (.lst acc) ∧ acc.length < sizeLine ∧ Nx (upd H5 D (.lst (acc ++ [y])))) hi e y fun y2 H5 e5 ev => kA y2 H5 e5 ?_)
    · exact q.2
    · rw [List.take_add_one, ev]
      rfl
  · rw [h, List.take_of_length_le (by rw [hn]; exact Nat.le_refl _)]
theorem gmono_name {i : Nat} : ∀ x σ2 H2 (R R2 : L2.St → Hp → Prop), (∀ σ3 H3, R σ3 H3 → R2 σ3 H3) → gName i x σ2 H2 R → gName i x σ2 H2 R2 := fun _ _ _ _ _ h q => h _ _ q
theorem gmono_nil : ∀ vs σ2 H2 (R R2 : L2.St → Hp → Prop), (∀ σ3 H3, R σ3 H3 → R2 σ3 H3) → gNil vs σ2 H2 R → gNil vs σ2 H2 R2 := fun _ _ _ _ _ h q => ⟨q.1, h _ _ q.2⟩
theorem gmono_cons {t : TG} {u : TGs} (ht : ∀ x σ2 H2 (R R2 : L2.St → Hp → Prop), (∀ σ3 H3, R σ3 H3 → R2 σ3 H3) → t x σ2 H2 R → t x σ2 H2 R2) (hu : ∀ x σ2 H2 (R R2 : L2.St → Hp → Prop), (∀ σ3 H3, R σ3 H3 → R2 σ3 H3) → u x σ2 H2 R → u x σ2 H2 R2) :
    ∀ vs σ2 H2 (R R2 : L2.St → Hp → Prop), (∀ σ3 H3, R σ3 H3 → R2 σ3 H3) → gCons t u vs σ2 H2 R → gCons t u vs σ2 H2 R2 := fun vs σ2 H2 R R2 h q => by
  obtain ⟨v, r, e, q⟩ := q
  exact ⟨v, r, e, ht _ _ _ _ _ (fun σ3 H3 z => hu _ _ _ _ _ h z) q⟩
theorem gmono_tup {K : PySem.W.Frag} {n : Nat} {t : TGs} (ht : ∀ x σ2 H2 (R R2 : L2.St → Hp → Prop), (∀ σ3 H3, R σ3 H3 → R2 σ3 H3) → t x σ2 H2 R → t x σ2 H2 R2) :
    ∀ v σ2 H2 (R R2 : L2.St → Hp → Prop), (∀ σ3 H3, R σ3 H3 → R2 σ3 H3) → gTup K n t v σ2 H2 R → gTup K n t v σ2 H2 R2 := fun v σ2 H2 R R2 h q => by
  obtain ⟨a, xs, e, h1, h2, q⟩ := q
  exact ⟨a, xs, e, h1, h2, ht _ _ _ _ _ h q⟩
/-! ### a list or a tuple walked -/
def ItS (K : PySem.W.Frag) (p : Bool × Addr) : It := if p.1 = true then Itt K p.2 else Itl K p.2
def iSeq (K : PySem.W.Frag) (tl : TE) : TI := fun σ H R => tl σ H fun x H1 => ∃ p : Bool × Addr, x = .ref p.2 ∧ (∃ xs, CZ.SqK K H1 p xs) ∧ R (ItS K p) H1
theorem pi_seq {X : Cx} {tg l : Expr} {tl : TE} (hl : PE X l tl) : PI X tg l (iSeq X.K tl) := by
  refine ⟨fun pins s σ H R I h => ?_⟩
  refine thn (hl.run pins s σ H _ I h) fun v s1 ⟨x, H1, I1, r1, q1⟩ => ?_
  obtain ⟨⟨b, a⟩, ex, ⟨xs, hq⟩, q⟩ := q1
  subst ex
  cases r1
  obtain ⟨its, rv, g, lt⟩ := CZ.sq_seq I1 hq
  have fp : ∀ c ∈ [s1.heap.objs.size], FpOk X pins H1 c := fun c hc => by
    have e : c = s1.heap.objs.size := by simpa using hc
    rw [e]
    exact I1.fpOk (Nat.le_refl _) (I1.hok.fresh (Nat.le_refl _))
  refine (CZ.begins_of (b, a) its).iter _ _ _ _ s1 _ g ?_
  have I2 : Inv X pins σ H1 { s1 with heap := s1.heap.push (CZ.itO (b, a)) } := I1.kept (t' := s1.toks) fun c o e => Heap.get?_push_of_some _ e
  cases b
  · exact ⟨_, [s1.heap.objs.size], _, _, H1, rfl, I2, turn_list a _, ⟨_, Heap.get?_push_size _ rfl, rfl, rfl⟩, fp, q⟩
  · exact ⟨_, [s1.heap.objs.size], _, _, H1, rfl, I2, turn_tuple a _, ⟨_, Heap.get?_push_size _ rfl, rfl, rfl⟩, fp, q⟩
theorem walk_seq {K : PySem.W.Frag} {p : Bool × Addr} {xs : List V} : Walk (ItS K p) xs.length (fun H => CZ.SqK K H p xs) (YAt xs) := by
  obtain ⟨b, a⟩ := p
  cases b
  · exact walk_list
  · exact walk_tup
theorem itt {c : Bool} {A B : Prop} (h : c = true) (a : A) : if c = true then A else B := by rw [if_pos h]; exact a
theorem itf {c : Bool} {A B : Prop} (h : c = false) (b : B) : if c = true then A else B := by rw [h, if_neg Bool.false_ne_true]; exact b
theorem map_get {α : Type} {f : α → V} {l : List α} {i : Nat} {x : V} (h : (l.map f)[i]? = some x) : ∃ n, l[i]? = some n ∧ x = f n := by
  rw [List.getElem?_map] at h
  cases e : l[i]? with
  | none => rw [e] at h; cases h
  | some n => rw [e] at h; exact ⟨n, rfl, (Option.some.inj h).symm⟩
end CS

namespace CE
open PySem PySem.Spec PyProof.Rows L2 CZ
/-! ### enumerate over a list or a tuple -/
theorem enumO_new {v : Value} {oo : Obj} {Hq : Heap → Prop} (bg : Begins v oo Hq) :
    Meets (Builtin.«enumerate.__new__» ⟨[.type "enumerate", v], []⟩) (fun _ R t => Hq t.heap ∧
      R (.ok (.ret (.ref (t.heap.push oo).objs.size))) { t with heap := (t.heap.push oo).push { cls := .type "enumerate", data := .fields #[.none, .bool false, .ref t.heap.objs.size, rawInt 0, .none, .none] } }) :=
  .of_wp fun pg wo Ar R t hyp => by
    obtain ⟨hh, gg, dd, tt, oq⟩ := t
    obtain ⟨start, goal⟩ := hyp
    have es := PySem.sub_enumerate
    have go1 : ∀ {A2 : Around} {E2 : Value → Shared → Prop} {Q2 : Value → Shared → Prop}, Q2 (.ref hh.objs.size) ⟨hh.push oo, gg, dd, tt, oq⟩ → wpAny (model pg wo) A2 (pyIter v) Q2 E2 ⟨hh, gg, dd, tt, oq⟩ :=
      fun z => bg.iter pg wo _ _ ⟨hh, gg, dd, tt, oq⟩ _ start z
    wp_walk using go1
    refine wpAny_stack_any fun stk => wpAny_pure ?_
    split
    · rename_i cc _ _ _ _ _
      cases (cc == Value.type "enumerate")
      all_goals
        wp_walk using go1
        exact ⟨_, rfl, goal⟩
    · wp_walk using go1
      exact ⟨_, rfl, goal⟩
theorem enum_of {pg : Program} {wo : World} {Ar : Around} {Ex1 : Value → Shared → Prop} {t : Shared} {v : Value} {oo : Obj} {Hq : Heap → Prop} {Qe : Value → Shared → Prop} (bg : Begins v oo Hq) (start : Hq t.heap)
    (goal : ∀ hN, IsEnum hN (t.heap.objs.size + 1) t.heap.objs.size 0 .none → hN.get? t.heap.objs.size = some oo → (∀ c ob, t.heap.get? c = some ob → hN.get? c = some ob) → Qe (.ref (t.heap.objs.size + 1)) { t with heap := hN }) :
    wpAny (model pg wo) Ar (call (.type "enumerate") [v]) Qe Ex1 t := by
  refine callType_new F.called_enumerate (by decide) (F.typeCall_enumerate_1 _) (F.newCall_enumerate_1 _) (fun ob => F.args_object_init_2 ob _) F.entry_enumerate_new (enumO_new bg) ⟨start, ?_⟩
  have size1 : (t.heap.push oo).objs.size = t.heap.objs.size + 1 := Heap.size_push ..
  have isE : IsEnum ((t.heap.push oo).push { cls := .type "enumerate", data := .fields #[.none, .bool false, .ref t.heap.objs.size, rawInt 0, .none, .none] }) (t.heap.objs.size + 1) t.heap.objs.size 0 .none := by
    have at1 := Heap.get?_push_size (t.heap.push oo) (o := { cls := .type "enumerate", data := .fields #[.none, .bool false, .ref t.heap.objs.size, rawInt 0, .none, .none] }) rfl
    rw [size1] at at1
    exact at1
  show _ ∧ _
  rw [size1]
  exact ⟨⟨_, isE, rfl⟩, goal _ isE (Heap.get?_push_of_some _ (Heap.get?_push_size _ bg.free)) fun c ob z => Heap.get?_push_of_some _ (Heap.get?_push_of_some _ z)⟩
/-- what stands at p, each item in a new pair -/
def ItE (K : PySem.W.Frag) (p : Bool × Addr) : It :=
  ⟨fun i H => ∃ (xs : List V) (x : V), SqK K H p xs ∧ xs[i]? = some x, fun i H v H2 => ∃ T x, v = .ref T ∧ H T = none ∧ H2 = upd H T (.tup [.int (i : Nat), x]) ∧ ∀ xs, SqK K H p xs → xs[i]? = some x, fun i H => ∃ xs : List V, SqK K H p xs ∧ xs.length = i⟩
theorem turn_e {P : Program} {w : World} {K : PySem.W.Frag} {elts : List Expr} {kk : Nat} {tpos : Pos} {en it : Addr} {p : Bool × Addr} (n1 : p.2 ≠ it) (n2 : en ≠ it) (n3 : en ≠ p.2) :
    Turn P w K (.Tuple elts kk tpos) (ItE K p) [en, it] en (fun i h => (∃ old, IsEnum h en it ((i : Nat) : Int) old) ∧ SqIt h it p i) where
  mem := by simp
  obj := fun i h st c hc => by
    obtain ⟨⟨old, ie⟩, si⟩ := st
    have e : c = en ∨ c = it := by simpa using hc
    rcases e with q | q
    · rw [q]; exact ⟨_, ie, fun v q => nomatch q⟩
    · rw [q]; exact si.obj
  keep := fun i h h2 st k => by
    obtain ⟨⟨old, ie⟩, si⟩ := st
    exact ⟨⟨old, k en (by simp) _ ie⟩, si.at fun o q => k it (by simp) o q⟩
  item := by
    intro X hP hw hK hc i pins s σ H E I hf st hg
    subst hP hw hK
    obtain ⟨⟨old, ie⟩, si⟩ := st
    obtain ⟨xs, x, hq, hx⟩ := hg
    obtain ⟨its, rv, sq, _⟩ := sq_seq I hq
    obtain ⟨u, hu, ru⟩ := rv.get hx
    have gu : its.toArray[i]? = some u := by simpa using hu
    have lu : i < its.toArray.size := by
      have := (List.getElem?_eq_some_iff.mp hu).1
      simpa using this
    have enl : en < s.heap.objs.size := Heap.lt_size ie
    have itl : it < s.heap.objs.size := by
      obtain ⟨_, q, _⟩ := si.obj
      exact Heap.lt_size q
    refine PySem.wpAny_pyNext_enum_itemD (draws_of (A := X.A.in1) (I.ok.hd hc) it p n1 its) ie ⟨si, sq⟩ lu n2 (by simp [n2, n3]) fun x1 hA tk hx1 out ⟨si2, _⟩ hT hsz hk => ?_
    obtain rfl : u = x1 := Option.some.inj (gu.symm.trans hx1)
    refine ⟨_, rfl, wpAny_letOwnedTupleGo_enum (s := { s with heap := hA, toks := tk + 1 }) out fun hB isB sb => ?_⟩
    replace sb : Heap.SameBut en hA hB := sb
    have hT2 : hB.get? s.heap.objs.size = some { cls := .type "tuple", data := .seq #[.int i tk, u] } := (sb.2 _ (Nat.ne_of_gt enl)).trans hT
    have made : ObjOk X.prog X.w (upd H s.heap.objs.size (.tup [.int (i : Nat), x])) hB s.heap.objs.size (.tup [.int (i : Nat), x]) := ⟨by show 2 ≤ sizeLine; decide, [.int i tk, u], .cons ⟨_, rfl⟩ (.cons ru .nil), ⟨_, hT2, rfl, _, rfl⟩⟩
    have I1 : Inv X pins σ (upd H s.heap.objs.size (.tup [.int (i : Nat), x])) { s with heap := hB, toks := tk + 1 } :=
      I.turnedNew (t' := tk + 1) (ch := [en, it]) (fun c ob hb q => (sb.2 c (fun z => hb (by simp [z]))).trans (hk c ob (fun z => hb (by simp [z])) (fun z => hb (by simp [z])) q)) hf (Nat.le_refl _) made
    refine ⟨.ref s.heap.objs.size, _, I1, rfl, ⟨_, x, rfl, I.hok.fresh (Nat.le_refl _), rfl, fun ys hy => by rw [sq_inj I hy hq]; exact hx⟩, ⟨⟨u, ?_⟩, si2.at fun o q => (sb.2 it n2.symm).trans q⟩, fun c hcm => ?_⟩
    · have next : ((i + 1 : Nat) : Int) = (i : Int) + 1 := by omega
      rw [next]
      exact isB
    · have small : c < s.heap.objs.size := by
        have e : c = en ∨ c = it := by simpa using hcm
        rcases e with q | q
        · rw [q]; exact enl
        · rw [q]; exact itl
      rw [upd_ne (Nat.ne_of_lt small)]
      exact (hf c hcm).1
  done := by
    intro X hP hw hK hc i pins s σ H E I hf st hg
    subst hP hw hK
    obtain ⟨⟨old, ie⟩, si⟩ := st
    obtain ⟨xs, hq, hx⟩ := hg
    obtain ⟨its, rv, sq, _⟩ := sq_seq I hq
    have li : its.toArray.size = i := by
      have := rv.length
      simp
      omega
    have dr := draws_of (prog := X.prog) (w := X.w) (A := X.A.in1) (I.ok.hd hc) it p n1 its
    rw [li] at dr
    exact PySem.wpAny_pyNext_enum_endD dr ie ⟨si, sq⟩ fun hA eb => ⟨rfl, I.turnedL (t' := s.toks) (ch := [en, it]) (fun c ob hb q => eb c ob (fun z => hb (by simp [z])) q) hf⟩
  self := fun A i s Q E st h => let ⟨⟨_, ie⟩, _⟩ := st; wpAny_pyIter_enum ie h
theorem walk_e {K : PySem.W.Frag} {p : Bool × Addr} {xs : List V} : Walk (ItE K p) xs.length (fun H => SqK K H p xs) (YPair (fun i => some (.int (i : Nat))) (fun i => xs[i]?)) :=
  ⟨fun i _ hi q => ⟨xs, xs[i], q, by simp [hi]⟩, fun _ q => ⟨xs, q, rfl⟩, fun i H v H2 _ q y => by
    obtain ⟨T, x, h1, h2, h3, h4⟩ := y
    exact ⟨T, _, x, h1, h2, h3, rfl, h4 xs q⟩⟩
/-- enumerate(e), e a list or a tuple -/
def iE (K : PySem.W.Frag) (ta : TA) : TI := fun σ H R => ta σ H fun vs H1 => ∃ p : Bool × Addr, vs = [.ref p.2] ∧ (∃ xs, SqK K H1 p xs) ∧ R (ItE K p) H1
theorem pi_e {X : Cx} {e : Expr} {ta : TA} {po pos tpos : Pos} {elts : List Expr} {kk : Nat} (hg : Gl X "enumerate") (hm : X.mg "enumerate" = none) (ha : PA X [e] ta) (hs : starEach [e] X.env = [(false, eval e X.env)] := by rfl) :
    PI X (.Tuple elts kk tpos) (.Call (.Name "enumerate" po) [e] [] pos) (iE X.K ta) := by
  refine ⟨fun pins s σ H R I h => ?_⟩
  refine Call_ (ld_blt I hg hm boot_enumerate (PyProof.Rows.callWith_type1 (thn (ha.run pos pins s σ H _ I h) fun us s0 ⟨vs, H1, I1, r1, q1⟩ => ?_) hs rfl))
  obtain ⟨p, ev, ⟨xs, hq⟩, q1⟩ := q1
  subst ev
  cases r1 with
  | cons r rr =>
    cases rr
    cases r
    obtain ⟨its, rv, sq, lt⟩ := sq_seq I1 hq
    refine enum_of (begins_of p its) sq fun hN ie io kk2 => wpAny_pyIter_enum ie ?_
    have I2 : Inv X pins σ H1 { s0 with heap := hN } := I1.kept (t' := s0.toks) kk2
    refine ⟨s0.heap.objs.size + 1, [s0.heap.objs.size + 1, s0.heap.objs.size], _, _, H1, rfl, I2, turn_e (Nat.ne_of_lt lt) (Nat.succ_ne_self _) (Nat.ne_of_gt (Nat.lt_succ_of_lt lt)), ⟨⟨.none, ie⟩, SqIt.begin io⟩, fun c hc => ?_, q1⟩
    have le : s0.heap.objs.size ≤ c := by
      have e : c = s0.heap.objs.size + 1 ∨ c = s0.heap.objs.size := by simpa using hc
      rcases e with z | z
      · rw [z]; exact Nat.le_add_right _ _
      · rw [z]; exact Nat.le_refl _
    exact I1.fpOk le (I1.hok.fresh le)
end CE

namespace CL
open PySem PySem.Spec PyProof.Rows L2
/-! ### set(l) of a list of ints -/
section
variable {pg : Program} {wo : World} {Ar : Around} {Ee : Value → Shared → Prop} {t : Shared}
set_option maxRecDepth 100000 in
set_option maxHeartbeats 3200000 in
theorem set_of_list {l : Addr} {its : Array Value} (ns : List Int) {Qe : Value → Shared → Prop} (calm : Ar.handled = none) (isl : t.heap.IsList l its) (intsA : IntsAre its.toList ns) (few : ns.length + 1 < scanBound)
    (goal : ∀ (hN : Heap) (k c : Nat), SetR wo hN t.heap.objs.size (fun j => decide (j ∈ ns)) c → c ≤ ns.length → (∀ b ob, t.heap.get? b = some ob → hN.get? b = some ob) → Qe (.ref t.heap.objs.size) { t with heap := hN, toks := k }) :
    wpAny (model pg wo) Ar (call (.type "set") [.ref l]) Qe Ee t := by
  have len : its.size = ns.length := by
    have z := IntsAre.length intsA
    rw [Array.length_toList] at z
    exact z
  obtain ⟨cc, tail, mro⟩ := PySem.F.called_set.mro
  have made := PySem.F.called_set.made
  have sub := PySem.F.called_set.sub
  refine wpAny_call (codeAny_of_tree ?_)
  show wpAny _ _ (callAny (.type "set") _) _ _ _
  refine wpAny_pure ⟨Code.quiet_builtin _ (by decide +kernel), codeAny_builtin PySem.F.entry_type_call ?_⟩
  rw [Around.under_plain (weight_type_call_type "set" [.ref l] []) rfl]
  have noType := PySem.F.called_set.notType
  have creates := PySem.F.called_set.canCreate
  have checked := PySem.F.typeCall_set_1 (.ref l)
  repeat (any_goals (first | assumption | wp_step))
  refine codeAny_mono (code_set_led1 (.ref l) (E := Ee) (Q₁ := fun ob t1 => ob = .ref t.heap.objs.size ∧ t1 = { t with heap := t.heap.push { cls := .type "set", dict := none, data := .set #[] 0 (.fresh 0 0 (!wo.params.followText "set-order")) } }) ⟨rfl, rfl⟩) fun r t1 hr => ?_
  cases r with
  | error e => exact hr
  | ok fl =>
    cases fl with
    | ret ob =>
      obtain ⟨rfl, rfl⟩ := hr
      have hS : (t.heap.push { cls := .type "set", dict := none, data := .set #[] 0 (.fresh 0 0 (!wo.params.followText "set-order")) }).get? t.heap.objs.size = some { cls := .type "set", dict := none, data := .set #[] 0 (.fresh 0 0 (!wo.params.followText "set-order")) } := Heap.get?_push_size _ rfl
      have tS : Shared.TypeIs { t with heap := t.heap.push { cls := .type "set", dict := none, data := .set #[] 0 (.fresh 0 0 (!wo.params.followText "set-order")) } } (.ref t.heap.objs.size) "set" := ⟨_, hS, rfl⟩
      have ini := PySem.F.called_set.init.lookup
      have bnd := PySem.F.called_set.init.bind (.ref t.heap.objs.size)
      repeat (any_goals (first | assumption | wp_step))
      refine codeAny_mono (codeAny_call_builtin (R := wants (fun r t2 => r = .none ∧ ∃ hN k c, t2 = { t with heap := hN, toks := k } ∧ SetR wo hN t.heap.objs.size (fun j => decide (j ∈ ns)) c ∧ c ≤ ns.length ∧
          (∀ b ob, t.heap.get? b = some ob → hN.get? b = some ob)) Ee) PySem.F.called_set.init.plain PySem.F.entry_set_init (check_set_init_1 tS ?_)) fun r2 t2 hr2 => ?_
      · obtain ⟨ol, hol, hcl, nl, hdl⟩ := id isl
        obtain ⟨ocls, odict, odata, oslots⟩ := ol
        simp only at hcl hdl
        subst hcl
        subst hdl
        have hol2 : (t.heap.push { cls := .type "set", dict := none, data := .set #[] 0 (.fresh 0 0 (!wo.params.followText "set-order")) }).get? l = some { cls := .type "list", dict := odict, data := .seq its nl, slots := oslots } := Heap.get?_push_of_some _ hol
        have s1 := PySem.F.sub_list_set
        have s2 := PySem.F.sub_list_frozenset
        have nd : (Value.type "list" == Value.type "dict") = false := by decide
        have isl2 : (t.heap.push { cls := .type "set", dict := none, data := .set #[] 0 (.fresh 0 0 (!wo.params.followText "set-order")) }).IsList l its := ⟨_, hol2, rfl, nl, rfl⟩
        unfold Builtin.«set.__init__» noKeywords Builtin.Frozenset.updateFrom
        generalize hPI : pyIter = PIt
        wp_walk
        subst hPI
        refine wpAny_pyIter_list isl2 ?_
        refine wpAny_bind (wpAny_runValue ?_)
        have lS : l < t.heap.objs.size := Heap.lt_size hol
        have calm3 : Ar.in1.in1.in1.handled = none := by simp [calm]
        have neI : l ≠ (t.heap.push { cls := .type "set", dict := none, data := .set #[] 0 (.fresh 0 0 (!wo.params.followText "set-order")) }).objs.size := by
          rw [Heap.size_push]
          exact Nat.ne_of_lt (Nat.lt_succ_of_lt lS)
        have notF : t.heap.objs.size ∉ [(t.heap.push { cls := .type "set", dict := none, data := .set #[] 0 (.fresh 0 0 (!wo.params.followText "set-order")) }).objs.size, l] := by
          rw [Heap.size_push]
          simp only [List.mem_cons, List.not_mem_nil, or_false, not_or]
          exact ⟨Nat.ne_of_lt (Nat.lt_succ_self _), Nat.ne_of_gt lS⟩
        have vals : ∀ (i : Nat) (v : Value), its[i]? = some v → ∃ k u, ns[i]? = some k ∧ v = .int k u := fun i v hv => by
          have hi : i < ns.length := by
            rw [← len]
            exact (Array.getElem?_eq_some_iff.mp hv).1
          obtain ⟨u, e⟩ := PyProof.Rows.IntsAre.int_at intsA i v (by rw [Array.getElem?_toList]; exact hv)
          refine ⟨ns[i], u, List.getElem?_eq_getElem hi, ?_⟩
          rw [e, List.getD_eq_getElem?_getD, List.getElem?_eq_getElem hi] <;> rfl
        refine set_update_ints ((Walks.list calm3 _ l neI its).toS) t.heap.objs.size notF ns len few vals (its.size - 0) 0 _ (by omega) (Nat.zero_le _) ⟨⟨_, Heap.get?_push_size _ rfl, rfl, rfl⟩, (isl2.push _)⟩ ?first ?last
        case first =>
          exact ⟨0, Nat.le_refl 0, setR_new_at (Heap.get?_push_of_some _ hS)⟩
        case last =>
          intro t3 c3 mv hc3 hS3
          obtain ⟨hN, g3, d3, k3, os3⟩ := t3
          obtain rfl : g3 = t.gens := mv.gens
          obtain rfl : d3 = t.drawn := mv.drawn
          obtain rfl : os3 = t.os := mv.os
          show wpAny _ _ _ _ _ _
          refine wpAny_pure ?_
          show wpAny _ _ (ret Value.none) _ _ _
          rw [len] at hc3
          refine wpAny_pure ⟨rfl, hN, k3, c3, rfl, hS3, hc3, fun b ob e => ?_⟩
          have b0 : b < t.heap.objs.size := Heap.lt_size e
          have b2 : b ≠ (t.heap.push { cls := .type "set", dict := none, data := .set #[] 0 (.fresh 0 0 (!wo.params.followText "set-order")) }).objs.size := by
            rw [Heap.size_push]
            exact Nat.ne_of_lt (Nat.lt_succ_of_lt b0)
          exact mv.heap b ob (by simp only [List.mem_cons, List.not_mem_nil, or_false, not_or]; exact ⟨Nat.ne_of_lt b0, b2⟩) (Heap.get?_push_of_some _ (Heap.get?_push_of_some _ e))
      · cases r2 with
        | error e => exact hr2
        | ok fl2 =>
          cases fl2 with
          | ret r =>
            obtain ⟨rfl, hN, k, c2, rfl, hS2, hc2, hk2⟩ := hr2
            repeat (any_goals (first | assumption | wp_step))
            exact goal _ _ _ hS2 hc2 hk2
          | _ => exact hr2.elim
    | _ => exact hr.elim
end
/-- set(l), l a list of ints -/
def rSetI (K : PySem.W.Frag) (w : World) : List V → Hp → VK → Prop := fun vs H Q => ∃ (a : Addr) (ns : List Int), vs = [V.ref a] ∧ SqL K H a (ns.map V.int) ∧ ns.length + 1 < scanBound ∧ ∀ p c, H p = none → c ≤ ns.length → Q (.ref p) (upd H p (SetO w p (fun j => decide (j ∈ ns)) c))
theorem call_setI {X : Cx} (hc : X.calm = true) : CallR X (.type "set") (rSetI X.K X.w) := by
  intro pins s σ H vs us Q I r h
  obtain ⟨a, ns, rfl, hl, few, q⟩ := h
  rw [Vals.ref1 r]
  obtain ⟨its, rv, pl, _⟩ := I.list hl
  refine set_of_list ns (I.ok.hd hc) pl.isList (by rw [List.toList_toArray]; exact intsAre_of rv) few fun hN k c new hcl keep => ?_
  exact ⟨.ref _, upd H s.heap.objs.size (SetO X.w s.heap.objs.size (fun j => decide (j ∈ ns)) c), I.laid (t' := k) keep (Nat.le_refl _) (setO_new new), rfl, q _ c (I.hok.fresh (Nat.le_refl _)) hcl⟩
end CL

namespace CS
open PySem PySem.Spec PyProof.Rows L2
/-! ### more rules beside the layer's -/
section
variable {X : Cx}
/-- o.f as a target -/
def gFld (K : PySem.W.Frag) (to : TE) (f : Str) : TG := fun v σ H Q => to σ H fun x H1 => ∃ a C dx fs, x = .ref a ∧ H1 a = some (.ins C dx fs) ∧ Cls K C ∧ NoAttr K C f ∧ fs.length < 1000 ∧ Q σ (upd H1 a (.ins C dx (putF f v fs)))
theorem pg_fld {o : Expr} {f : Str} {pos : Pos} {to : TE} (ho : PE X o to) : PG X (.Attribute o f pos) (gFld X.K to f) := by
  refine ⟨fun pins s σ H v u Q I r h => ?_⟩
  rw [assign_Attribute]
  refine wpAny_bind (wpAny_holding (thn (ho.run pins s σ H _ I h) fun ov s1 ⟨x, H1, I1, r1, a, C, dx, fs, ex, ea, c, n, l, q⟩ => ?_))
  subst ex
  obtain rfl : ov = Value.ref a := r1
  refine wpAny_bind (wpAny_standAt (wpAny_bind (wpAny_holding (setattr_ok I1 ea c n l r fun s3 I3 => ?_))))
  exact wpAny_release ⟨σ, _, I3, q⟩
theorem pe_fldK {e : Expr} {f : Str} {pos : Pos} {ta : TE} (K : PySem.W.Frag) (hk : X.K = K) (he : PE X e ta) (hb : attributeBase e f X.env (eval e X.env) = eval e X.env) : PE X (.Attribute e f pos) (tFld K ta f) := by
  subst hk
  exact pe_fld he hb
def rLenQ (K : PySem.W.Frag) : List V → Hp → VK → Prop := fun xs H Q => ∃ p ys, xs = [.ref p] ∧ (SqL K H p ys ∨ SqT K H p ys) ∧ Q (.int ys.length) H
def rListQ (K : PySem.W.Frag) : List V → Hp → VK → Prop := fun xs H Q => ∃ p ys, xs = [.ref p] ∧ (SqL K H p ys ∨ SqT K H p ys) ∧ ∀ l, H l = none → Q (.ref l) (upd H l (.lst ys))
def rTupleQ (K : PySem.W.Frag) : List V → Hp → VK → Prop := fun xs H Q => ∃ p ys, xs = [.ref p] ∧ ((SqL K H p ys ∧ ∀ l, H l = none → Q (.ref l) (upd H l (.tup ys))) ∨ (SqT K H p ys ∧ Q (.ref p) H))
/-- // by a divisor of either sign -/
def CDivNW (_ j : Int) : Prop := j ≠ 0 ∧ j.natAbs.log2 < 9000
theorem op_fdivNW : OpR X (binaryOp .FloorDiv) (rI CDivNW fun i j => .int (i.fdiv j)) := opI fun _ _ _ _ _ _ _ hc q => floordiv_int hc.1 q (.inl (PyProof.noPylong_of_log2 hc.2))
theorem wide_divN {i j : Int} {b : Nat} (h : j ≠ 0) (hb : j.natAbs < 2 ^ b) (h0 : 0 < b) (h9 : b ≤ 9000) : CDivNW i j := ⟨h, Nat.lt_of_lt_of_le (PySem.Flt.log2_lt_of h0 hb) h9⟩
theorem kit_self {K : PySem.W.Frag} {C : Addr} : PySem.W.kitOne K (.ref C) (.ref C) = some true := by
  unfold PySem.W.kitOne
  rw [if_pos (by simp)]
theorem pe_revLK {e : Expr} {te : TE} {k : Nat} {p1 p2 p3 pos : Pos} (K : PySem.W.Frag) (hk : X.K = K) (he : PE X e te) : PE X (.Subscript e (.Slice none none (some (.UnaryOp .USub (.Constant (.int 1) k p1) p2)) p3) pos) (tRevL K te) := by
  subst hk
  exact pe_revL he
/-- x in s, a list or a tuple of data -/
def rInQ (K : PySem.W.Frag) : R2 := fun x y H Q => ∃ d ds, Dp K H x d ∧ (Dp K H y (.list ds) ∨ Dp K H y (.tuple ds)) ∧ SeqAt.shaped d = true ∧ SeqAt.shaped (.list ds) = true ∧ Q (.bl (ds.any fun z => PyData.eqv z d)) H
def rNotInQ (K : PySem.W.Frag) : R2 := fun x y H Q => ∃ d ds, Dp K H x d ∧ (Dp K H y (.list ds) ∨ Dp K H y (.tuple ds)) ∧ SeqAt.shaped d = true ∧ SeqAt.shaped (.list ds) = true ∧ Q (.bl (!ds.any fun z => PyData.eqv z d)) H
theorem op_inQ (hu : X.A.units + 65 < cLine) : OpR X (compareOp .In) (rInQ X.K) := by
  intro pins s σ H x y v u Q I rx ry h
  obtain ⟨d, ds, hd, he, sd, se, q⟩ := h
  obtain ⟨as, r1⟩ := Dp.reads I d x v hd rx
  rcases he with he | he
  · obtain ⟨bs, r2⟩ := Dp.reads I (.list ds) y u he ry
    exact SeqAt.in_list_reads r2 r1 (SeqAt.canLay_of_shaped se) (SeqAt.canLay_of_shaped sd) (room_in_shaped sd hu) ⟨.bl _, H, I, rfl, q⟩
  · obtain ⟨bs, r2⟩ := Dp.reads I (.tuple ds) y u he ry
    exact SeqAt.in_tuple_reads r2 r1 (SeqAt.canLay_of_shaped se) (SeqAt.canLay_of_shaped sd) (room_in_shaped sd hu) ⟨.bl _, H, I, rfl, q⟩
theorem op_notInQ (hu : X.A.units + 65 < cLine) : OpR X (compareOp .NotIn) (rNotInQ X.K) := by
  intro pins s σ H x y v u Q I rx ry h
  obtain ⟨d, ds, hd, he, sd, se, q⟩ := h
  obtain ⟨as, r1⟩ := Dp.reads I d x v hd rx
  rcases he with he | he
  · obtain ⟨bs, r2⟩ := Dp.reads I (.list ds) y u he ry
    exact SeqAt.notIn_list_reads r2 r1 (SeqAt.canLay_of_shaped se) (SeqAt.canLay_of_shaped sd) (room_in_shaped sd hu) ⟨.bl _, H, I, rfl, q⟩
  · obtain ⟨bs, r2⟩ := Dp.reads I (.tuple ds) y u he ry
    exact SeqAt.notIn_tuple_reads r2 r1 (SeqAt.canLay_of_shaped se) (SeqAt.canLay_of_shaped sd) (room_in_shaped sd hu) ⟨.bl _, H, I, rfl, q⟩
end
end CS

/-! ### promises for callers that print nothing yet, and repr -/
namespace CG
open PySem PySem.Spec PyProof.Rows L2
/-- a promise that is kept where nothing is being printed -/
structure FnOkG (P : Program) (w : World) (K : PySem.W.Frag) (mg : Str → Option Value) (base : Heap) (k : Nat) (f : Addr) (fd : FuncData) (ps : List Str) (sp : Sp) : Prop where
  size : ∀ vs H Q E, sp vs H Q E → vs.length = ps.length
  go : ∀ (A : Around) (fr : List Env) (s : Shared) (H : Hp) (as : Args) (us : List Value) (vs : List V) (Q : VK) (E : XK), A.guards = some [] → Room k A → Env0 P w K mg base A fr s H → BindsTo s fd as (ps.zip us) → Vals vs us → sp vs H Q E →
    codeAny (model P w) A (.call (.ref f) as) (CR CX0 fr P w H s Q E) s
theorem FnOkG.of {P : Program} {w : World} {K : PySem.W.Frag} {mg : Str → Option Value} {base : Heap} {k : Nat} {f : Addr} {fd : FuncData} {ps : List Str} {sp : Sp} (F : FnOk P w K mg base CX0 k f fd ps sp) : FnOkG P w K mg base k f fd ps sp :=
  ⟨F.len, fun A fr s H as us vs Q E _ => F.run A fr s H as us vs Q E⟩
section
variable {P : Program} {w : World} {K : PySem.W.Frag} {mg : Str → Option Value} {base : Heap}
/-- a def by its body, where nothing is being printed -/
theorem okG {x qual : Str} {st : Stmt} {f : Addr} {fd : FuncData} {N ps : List Str} {k : Nat} {sp : Sp} (F : Fun K x qual st f fd) (S : FnScope N ps (defScope st)) (len : ∀ vs H Q E, sp vs H Q E → vs.length = ps.length)
    (body : ∀ (cdv : Value) (A : Around) (fr : List Env) (s : Shared) (H : Hp) (vs : List V) (Q : VK) (E : XK), A.guards = some [] → Room k (A.deeper (envOfC qual (defScope st) s.heap.objs.size f cdv)) → sp vs H Q E →
      ∃ t, PSs (cxOf CX0 P w K mg base N qual (defScope st) f cdv A fr s H E).nox (defBody st) t ∧ t { nx := fun _ H' => Q .non H', rt := Q } (start N vs) H) : FnOkG P w K mg base (k + 1) f fd ps sp := by
  obtain ⟨o1, o2, d1, d2, d3, o3, cd, ct, o4, rfl, look, code⟩ := F.ex
  refine ⟨len, fun A fr s H as us vs Q E gd room en bind rel want => ?_⟩
  have kin : K.In s.heap := en.mod.kin.keeps fun b o e => (en.bs b o e).1
  have nolim : s.heap.NoLimit := en.mod.nolimit.keeps fun b o e => (en.bs b o e).1
  have kinds : ∀ y ∈ ps.zip us, (defScope st).names.lookup y.1 = some .local ∨ ((defScope st).names.lookup y.1 = some .cell ∧ ((cellsFrom (s.heap.objs.size + 1) (defScope st).names []).lookup y.1).isSome = true) := fun ⟨n, v⟩ hy =>
    (S.par n (List.of_mem_zip hy).1).imp id fun q => ⟨q, PySem.W.cellsFrom_some _ _ _ (.inl q)⟩
  refine codeAny_call_function room.depth (kin _ _ look) rfl S.co S.gen rfl (PySem.W.codeRec_of kin code) (bind _ _ _ _ ?_)
  refine wpAny_newFunctionEnv_cells S.kind kinds fun env isEnv s1 entry => ?_
  subst isEnv
  refine ⟨nolim.keeps entry.toInCall.keep, codeAny_func ?_⟩
  obtain ⟨t, rule, reading⟩ := body cd A fr s H vs Q E gd (room.deeper _) want
  have start1 : Inv (cxOf CX0 P w K mg base N qual (defScope st) f cd A fr s H E) [] (start N vs) H s1 := inv_start S room.hd en (len _ _ _ _ want) rel entry
  refine wpAny_mono (rule.nox.run [] s1 (start N vs) H _ start1 reading) (fun fl s' out => ?_) fun e s' out => out
  have close : ∀ {τ : L2.St} {H' : Hp} {v : V} {u : Value}, Inv (cxOf CX0 P w K mg base N qual (defScope st) f cd A fr s H E) [] τ H' s' → RelV v u → Q v H' → CE fr P w H s Q u s' :=
    fun {τ H' v u} J rv q => ⟨v, H', J.os, J.bare, J.base, J.hok, rv, q⟩
  match fl, out with
  | .ret u, ⟨_, _, _, J, rv, q⟩ => exact close J rv q
  | .next, ⟨_, _, J, q⟩ => exact close (v := V.non) (u := Value.none) J rfl q
  | .brk, ⟨_, _, _, q⟩ => exact q.elim
  | .cont, ⟨_, _, _, q⟩ => exact q.elim
end
section
variable {X : Cx} {k : Nat} {f : Addr} {fd : FuncData} {ps : List Str} {sp : Sp} {dvs : List V} {ds : List Value} {E : XK} {x : Str} {p pos : Pos} {e : Expr} {es : List Expr} {t : TA}
theorem goG {pins : List (Addr × Obj)} {σ : L2.St} {H : Hp} {s : Shared} {Q : VK} {us : List Value} {vs : List V} (F : FnOkG X.prog X.w X.K X.mg X.base k f fd ps sp) (gd : X.A.guards = some []) (room : Room k X.A) (bind : Binds X.K fd ps ds) (hd : Vals dvs ds) (pass : Passes CX0 X E)
    (I : Inv X pins σ H s) (rel : Vals vs us) (want : sp (vs ++ dvs) H Q E) : wpAny (model X.prog X.w) X.A (call (.ref f) us) (EP X pins σ Q) X.xe s := by
  have both : Vals (vs ++ dvs) (us ++ ds) := rel.append hd
  have size : (us ++ ds).length = ps.length := both.length.symm.trans (F.size _ _ _ _ want)
  refine wpAny_call (codeAny_mono (F.go X.A X.stack s H ⟨us, []⟩ (us ++ ds) (vs ++ dvs) Q E gd room I.env0 (bind s us I.kIn size) both want) fun out s' q => ?_)
  match out, q with
  | .error err, q => exact pass pins σ H s err s' I q
  | .ok (.ret u), q => exact I.after q
/-- the call of a def that wants nothing to be printed -/
theorem pe_callG (F : FnOkG X.prog X.w X.K X.mg X.base k f fd ps sp) (gd : X.A.guards = some []) (room : Room k X.A) (hg : Gl X x) (hm : X.mg x = some (.ref f)) (hk : PySem.W.keepIn X.K (.ref f) = true) (bind : Binds X.K fd ps ds) (hd : Vals dvs ds) (pass : Passes CX0 X E)
    (args : PA X (e :: es) t) (hdb : (x == ("__debug__" : Str)) = false := by decide) (he : starEach (e :: es) X.env = (false, eval e X.env) :: starEach es X.env := by rfl) (hpl : (backTo pos (starEach es X.env)).any (·.1) = false := by rfl) :
    PE X (.Call (.Name x p) (e :: es) [] pos) (tCall sp dvs E t) :=
  ⟨fun pins s σ H Q I h => wpAny_Call_Name_kw (ld_glob I hg hm (PySem.W.callWith_K (h₀ := X.base) I.ok.mod.kin hk (thn (args.run pos pins s σ H _ I h) fun us s1 ⟨vs, H1, I1, r, q⟩ => ⟨I1.kIn, goG F gd room bind hd pass I1 r q⟩) he hpl) hdb)⟩
/-- repr(x) of data that are known -/
def rRepr (K : PySem.W.Frag) : List V → Hp → VK → Prop := fun vs H Q => ∃ (a : Addr) (d : PyData), vs = [V.ref a] ∧ Dp K H (.ref a) d ∧ d.showable = true ∧ d.hasDict = false ∧ d.shown.length ≤ sizeLine ∧ d.depth ≤ 60 ∧ Q (.str d.shown) H
theorem cr_repr (gd : X.A.guards = some []) (hu : X.A.units + 65 < cLine) : CallR X (.builtin "repr") (rRepr X.K) := by
  intro pins s σ H vs us Q I r h
  obtain ⟨a, d, rfl, hd, sh, nd, lz, dp, q⟩ := h
  rw [Vals.ref1 r]
  obtain ⟨as, rd⟩ := Dp.reads I _ (.ref a) _ hd rfl
  refine repr_of_reads' rd sh (fun z => absurd (nd.symm.trans z) (by decide)) gd (by omega) (fun _ _ e => e) (fun h' u tk hk => ?_) lz
  exact ⟨.str d.shown, H, I.kept (t' := tk) hk, ⟨_, rfl⟩, q⟩
end
/-- the law at its script, from a promise of that kind -/
theorem law_callG {P : Program} {w : World} {K : PySem.W.Frag} {mg mb : Str → Option Value} {k : Nat} {fa a : Addr} {fd : FuncData} {x : Str} {sp : Sp} {s₁ : Shared} {us : List Value} {ms : List Int}
    (inK : K.In s₁.heap) (g1 : s₁.heap.Ns mainGlobals mg) (g2 : s₁.heap.Ns builtinsNs mb) (g3 : ∀ x : Str, x ≠ "__name__" → mb x = bootBuiltins x) (g4 : s₁.heap.NoLimit) (g5 : s₁.gens = #[])
    (at_a : s₁.heap.get? a = some { cls := .type "list", data := .seq us.toArray }) (are : IntsAre us ms) (short : ms.length ≤ sizeLine) (room : Room k callerA)
    (F : ∀ base : Heap, K.In base → base.Ns mainGlobals mg → FnOkG P w K mg base k fa fd [x] sp) (bind : ∀ (s : Shared) (u : Value), BindsTo s fd ⟨[u], []⟩ [(x, u)])
    (want : ∀ H : Hp, Only H → SqL K H a (ms.map V.int) → sp [.ref a] H (fun v _ => v = .bl true) fun _ _ _ => False) :
    codeAny (model P w) callerA (.call (.ref fa) ⟨[.ref a], []⟩) (fun r s' => r = .ok (.ret (.bool true)) ∧ OldK s₁.heap s'.heap ∧ s'.os = s₁.os ∧ AllBare s'.gens) s₁ := by
  have vals := vals_ints are
  have many := are.length
  have main : ∀ H : Hp, Only H → SqL K H a (ms.map V.int) → HOk P w H s₁.heap → (∀ b, H b ≠ none → b = a) → (H a ≠ none → K.lookup a = none) →
      codeAny (model P w) callerA (.call (.ref fa) ⟨[.ref a], []⟩) (fun r s' => r = .ok (.ret (.bool true)) ∧ OldK s₁.heap s'.heap ∧ s'.os = s₁.os ∧ AllBare s'.gens) s₁ := by
    intro H only seq hok just out
    have hid : ∀ {b : Addr} {o : Obj} {es : Array DictEntry} {n : Nat}, s₁.heap.get? b = some o → o.data = .dict es n → H b = none := fun {b o es n} e d => Classical.byContradiction fun z => by
      rw [just b z, at_a] at e
      obtain rfl := Option.some.inj e
      exact absurd (show Data.seq us.toArray _ = Data.dict es n from d) (fun z => nomatch z)
    have names : ∀ {b : Addr} {m : Str → Option Value}, s₁.heap.Ns b m → (hidT s₁.heap H).Ns b m := fun {b m} ⟨o, es, n, e, d, r⟩ => ⟨o, es, n, hidT_get e (hid e d), d, r⟩
    have inB : K.In (hidT s₁.heap H) := fun b o e => hidT_get (inK b o e) (Classical.byContradiction fun z => by
      have ba := just b z
      rw [ba] at z e
      rw [out z] at e
      exact absurd e (fun z => nomatch z))
    have known : Mod K mg (hidT s₁.heap H) := ⟨inB, names g1, ⟨mb, names g2, g3⟩, g4.elim fun mc z => ⟨mc, names z.1, z.2⟩⟩
    have entry : Env0 P w K mg (hidT s₁.heap H) callerA [] s₁ H := ⟨rfl, known, fun b o e => of_hidT e, Nat.le_of_eq (hidT_size _ _), trivial, fun b z => (List.not_mem_nil z).elim, hok, .of_eq g5⟩
    refine codeAny_mono ((F _ inB (names g1)).go callerA [] s₁ H ⟨[.ref a], []⟩ [.ref a] [.ref a] _ _ rfl room entry (bind s₁ (.ref a)) (.cons rfl .nil) (want H only seq)) fun r s' h => ?_
    match r, h with
    | .ok (.ret u), ⟨v, H', os, bare, un, hok', rel, (q : v = .bl true)⟩ =>
      subst q
      obtain rfl : u = Value.bool true := rel
      refine ⟨rfl, OldK.of_keep fun b o e => ?_, os, bare⟩
      rcases only b with z | ⟨ob, xs, z⟩
      · exact un.keep b o e z (fun m => (List.not_mem_nil m).elim) (by simp)
      · have e1 := (hok b _ z).1
        have e2 := (hok' b _ (un.frzs b ob _ z)).1
        rw [e] at e1
        rw [Option.some.inj e1]
        exact e2
  cases look : K.lookup a with
  | some o =>
    obtain rfl := Option.some.inj (at_a.symm.trans (inK a o look))
    exact main (fun _ => none) (fun _ => .inl rfl) (.inr ⟨_, us.toArray, _, look, rfl, rfl, rfl, by simpa [many] using short, by simpa using vals⟩) (fun b u z => (nomatch (show (none : Option HO) = some u from z))) (fun b z => (z rfl).elim) fun z => (z rfl).elim
  | none =>
    let O : Obj := { cls := .type "list", data := .seq us.toArray }
    let G : Hp := fun b => if b = a then some (.frz O (.lst (ms.map V.int))) else none
    have gA : G a = some (.frz O (.lst (ms.map V.int))) := if_pos rfl
    have gN : ∀ b, b ≠ a → G b = none := fun b n => if_neg n
    refine main G (fun b => ?_) (.inl (.inr ⟨O, gA⟩)) (fun b u z => ?_) (fun b z => Classical.byContradiction fun n => z (gN b n)) fun _ => look
    · rcases Decidable.em (b = a) with rfl | n
      · exact .inr ⟨_, _, gA⟩
      · exact .inl (gN b n)
    · rcases Decidable.em (b = a) with rfl | n
      · obtain rfl := Option.some.inj (gA.symm.trans z)
        exact ⟨at_a, by rw [List.length_map]; exact short, us, _, vals, at_a⟩
      · exact absurd (gN b n) (by rw [z]; exact fun e => nomatch e)
/-- a law's end, from a promise of that kind -/
theorem walk_ofG {l : PySem.W.OpenLaw} {n k : Nat} {q : Program} {loose : List Str} {XP : (Str → Option Value) → Heap → Prop} {YP : World → Heap → Prop} {d : DefRec} {x : Str}
    (most : l.most = some n) (small : n ≤ sizeLine) (plain : d.params.defaults = []) (room : Room k callerA)
    (F : ∀ (w : World) (mg : Str → Option Value) (fa : Addr) (h : Heap), YP w h → h.Ns mainGlobals mg → mg d.name = some (.ref fa) →
      ∃ (K : PySem.W.Frag) (fd : FuncData) (sp : Sp), K.In h ∧ (∀ (s : Shared) (u : Value), BindsTo s fd ⟨[u], []⟩ [(x, u)]) ∧
        (∀ (H : Hp) (a : Addr) (ms : List Int), ms.length ≤ n → Only H → SqL K H a (ms.map V.int) → sp [.ref a] H (fun v _ => v = .bl true) fun _ _ _ => False) ∧
        ∀ base : Heap, K.In base → base.Ns mainGlobals mg → FnOkG l.prog w K mg base k fa fd [x] sp) :
    PySem.W.WalkO q loose XP YP l.row.toRowW d [] (fun f vs => PySem.call f vs) :=
  Att.attach_call most plain fun w s₀ s₁ mg mb fa o pm cd doc a us ms G Y ho hd hcd named at_a are len gens => by
    obtain ⟨K, fd, sp, inK, bind, want, prom⟩ := F w mg fa _ Y G.T.g named
    exact law_callG inK G.T.g G.T.b G.T.builtins G.T.nolimit gens at_a are (Nat.le_trans len small) room prom bind fun H only seq => want H a ms len only seq
end CG

/-! ### repr of data that may be None -/
namespace CG
open PySem PySem.Spec PyProof.Rows L2
section
variable {X : Cx}
def rReprN (K : PySem.W.Frag) : List V → Hp → VK → Prop := fun vs H Q => ∃ (x : V) (d : PyData), vs = [x] ∧ (x = .non ∨ ∃ a, x = .ref a) ∧ Dp K H x d ∧ d.showable = true ∧ d.hasDict = false ∧ d.shown.length ≤ sizeLine ∧ d.depth ≤ 60 ∧ Q (.str d.shown) H
theorem cr_reprN (gd : X.A.guards = some []) (hu : X.A.units + 65 < cLine) : CallR X (.builtin "repr") (rReprN X.K) := by
  intro pins s σ H vs us Q I r h
  obtain ⟨x, d, rfl, c, hd, sh, nd, lz, dp, q⟩ := h
  rcases c with rfl | ⟨a, rfl⟩
  · cases hd
    obtain ⟨u, rfl, rfl⟩ := vals1 r
    exact PySem.P.repr_of_none ⟨.str _, H, I.tok _, ⟨_, rfl⟩, q⟩
  · exact cr_repr gd hu pins s σ H _ us Q I r ⟨a, d, rfl, hd, sh, nd, lz, dp, q⟩
end
end CG

/-! ### repr of data that may hold empty dicts -/
namespace CG
open PySem PySem.Spec PyProof.Rows L2
mutual
/-- data, empty dicts among them -/
inductive De (K : PySem.W.Frag) (H : Hp) : V → PyData → Prop
  | non : De K H .non .none
  | bl (b : Bool) : De K H (.bl b) (.bool b)
  | int (i : Int) : De K H (.int i) (.int i)
  | str (x : Str) : De K H (.str x) (.str x)
  | lst {a : Addr} {xs : List V} {ds : List PyData} : SqL K H a xs → DeAll K H xs ds → De K H (.ref a) (.list ds)
  | tup {a : Addr} {xs : List V} {ds : List PyData} : SqT K H a xs → DeAll K H xs ds → De K H (.ref a) (.tuple ds)
  | emp {a : Addr} : H a = some (.dK []) → De K H (.ref a) (.dict [])
inductive DeAll (K : PySem.W.Frag) (H : Hp) : List V → List PyData → Prop
  | nil : DeAll K H [] []
  | cons {v : V} {vs : List V} {d : PyData} {ds : List PyData} : De K H v d → DeAll K H vs ds → DeAll K H (v :: vs) (d :: ds)
end
section
variable {X : Cx} {pins : List (Addr × Obj)} {σ : L2.St} {H : Hp} {s : Shared}
theorem sys_not {a : Addr} {o : Obj} (I : Inv X pins σ H s) (sd : PySem.W.typeIn X.K (.ref sysModules) = some (.type "dict")) (ho : s.heap.get? a = some o) (hc : o.cls = .type "list") : a ≠ sysModules := fun z => by
  obtain ⟨o2, h2, e2⟩ := Option.map_eq_some_iff.mp sd
  have h3 := I.kIn _ _ h2
  rw [z, h3] at ho
  obtain rfl := Option.some.inj ho
  rw [e2] at hc
  exact absurd hc (by decide)
mutual
theorem De.reads (I : Inv X pins σ H s) (sd : PySem.W.typeIn X.K (.ref sysModules) = some (.type "dict")) : ∀ (d : PyData) (v : V) (u : Value), De X.K H v d → RelV v u → ∃ as, Reads s.heap u d as ∧ sysModules ∉ as
  | .none, _, _, h, r => by
    cases h
    cases r
    exact ⟨_, Reads.none, List.not_mem_nil⟩
  | .bool b, _, _, h, r => by
    cases h
    cases r
    exact ⟨_, Reads.bool b, List.not_mem_nil⟩
  | .int i, _, _, h, r => by
    cases h
    obtain ⟨t, rfl⟩ := r
    exact ⟨_, Reads.int i t, List.not_mem_nil⟩
  | .str x, _, _, h, r => by
    cases h
    obtain ⟨t, rfl⟩ := r
    exact ⟨_, Reads.str x t, List.not_mem_nil⟩
  | .list ds, _, _, h, r => by
    cases h with
    | lst hs ha =>
      cases r
      obtain ⟨its, rv, ⟨o, n, ho, hc, _, hd⟩, _⟩ := I.list hs
      obtain ⟨as, hr, hn⟩ := De.readsAll I sd ds _ its ha rv
      exact ⟨_, Reads.list ho hc hd hr, fun z => by
        rcases List.mem_cons.mp z with z | z
        · exact sys_not I sd ho hc z.symm
        · exact hn z⟩
  | .tuple ds, _, _, h, r => by
    cases h with
    | tup hs ha =>
      cases r
      obtain ⟨its, rv, ⟨o, ho, hc, n, hd⟩, _⟩ := I.tuple hs
      obtain ⟨as, hr, hn⟩ := De.readsAll I sd ds _ its ha rv
      exact ⟨_, Reads.tuple ho hc hd hr, hn⟩
  | .dict kvs, _, _, h, r => by
    cases h with
    | @emp a he =>
      cases r
      obtain ⟨_, hm, vs, rv, dd⟩ := dk_of I.hok he
      cases rv
      obtain ⟨o, es, n, ho, hx, hd, _, hp, _⟩ := dd
      have e0 : es.toList = [] := by
        cases h : es.toList with
        | nil => rfl
        | cons e t =>
          rw [h] at hp
          cases hp
      have hs : sysModules ∉ a :: ([] : List Addr) ++ [] := fun z => by
        have z2 : sysModules = a := by simpa using z
        rw [← z2] at hm
        simp at hm
      exact ⟨_, Reads.dict (kvs := []) ho hx.1 hd (by rw [e0]; exact .nil) (by rw [e0]; exact .nil), hs⟩
theorem De.readsAll (I : Inv X pins σ H s) (sd : PySem.W.typeIn X.K (.ref sysModules) = some (.type "dict")) : ∀ (ds : List PyData) (vs : List V) (us : List Value), DeAll X.K H vs ds → Vals vs us → ∃ as, ReadsAll s.heap us ds as ∧ sysModules ∉ as
  | [], _, _, h, r => by
    cases h
    cases r
    exact ⟨_, ReadsAll.nil, List.not_mem_nil⟩
  | d :: ds, _, _, h, r => by
    cases h with
    | cons h1 h2 =>
      cases r with
      | cons r1 r2 =>
        obtain ⟨as, q1, n1⟩ := De.reads I sd d _ _ h1 r1
        obtain ⟨bs, q2, n2⟩ := De.readsAll I sd ds _ _ h2 r2
        exact ⟨_, ReadsAll.cons q1 q2, fun z => (List.mem_append.mp z).elim n1 n2⟩
end
/-- repr(x) -/
def rReprE (K : PySem.W.Frag) : List V → Hp → VK → Prop := fun vs H Q => ∃ (a : Addr) (d : PyData), vs = [V.ref a] ∧ De K H (.ref a) d ∧ d.showable = true ∧ d.shown.length ≤ sizeLine ∧ d.depth ≤ 60 ∧ Q (.str d.shown) H
theorem cr_reprE (sd : PySem.W.typeIn X.K (.ref sysModules) = some (.type "dict")) (gd : X.A.guards = some []) (hu : X.A.units + 65 < cLine) : CallR X (.builtin "repr") (rReprE X.K) := by
  intro pins s σ H vs us Q I r h
  obtain ⟨a, d, rfl, hd, sh, lz, dp, q⟩ := h
  rw [Vals.ref1 r]
  obtain ⟨as, rd, ns⟩ := De.reads I sd _ (.ref a) _ hd rfl
  refine repr_of_reads' rd sh (fun _ => ns) gd (by omega) (fun _ _ e => e) (fun h' u tk hk => ?_) lz
  exact ⟨.str d.shown, H, I.kept (t' := tk) hk, ⟨_, rfl⟩, q⟩
end
end CG

namespace CS
open PySem PySem.Spec PyProof.Rows L2
def top (i : Nat) : Stmt := PySem.Challenge.pw_calledseats_k55_sums_checked.main.body.getD i (.Pass ⟨0, 0, 0, 0⟩)
abbrev s_InvalidWitness_init : Stmt := inClass (top 3) 0
abbrev N_InvalidWitness_init : List Str := ["self", "index"]
theorem sc_InvalidWitness_init : FnScope N_InvalidWitness_init ["self", "index"] (defScope s_InvalidWitness_init) := ⟨rfl, rfl, rfl, by decide +kernel, rfl, by decide +kernel, by decide +kernel⟩
abbrev s_is_integer : Stmt := top 7
abbrev N_is_integer : List Str := ["value"]
theorem sc_is_integer : FnScope N_is_integer ["value"] (defScope s_is_integer) := ⟨rfl, rfl, rfl, by decide +kernel, rfl, by decide +kernel, by decide +kernel⟩
abbrev s_is_at_least : Stmt := top 8
abbrev N_is_at_least : List Str := ["value", "low"]
theorem sc_is_at_least : FnScope N_is_at_least ["value", "low"] (defScope s_is_at_least) := ⟨rfl, rfl, rfl, by decide +kernel, rfl, by decide +kernel, by decide +kernel⟩
abbrev s_is_between : Stmt := top 9
abbrev N_is_between : List Str := ["value", "low", "high"]
theorem sc_is_between : FnScope N_is_between ["value", "low", "high"] (defScope s_is_between) := ⟨rfl, rfl, rfl, by decide +kernel, rfl, by decide +kernel, by decide +kernel⟩
abbrev s_require_at_least : Stmt := top 10
abbrev N_require_at_least : List Str := ["value", "low", "name"]
theorem sc_require_at_least : FnScope N_require_at_least ["value", "low", "name"] (defScope s_require_at_least) := ⟨rfl, rfl, rfl, by decide +kernel, rfl, by decide +kernel, by decide +kernel⟩
abbrev s_require_places : Stmt := top 13
abbrev N_require_places : List Str := ["size", "targets", "seen", "index", "target"]
theorem sc_require_places : FnScope N_require_places ["size", "targets"] (defScope s_require_places) := ⟨rfl, rfl, rfl, by decide +kernel, rfl, by decide +kernel, by decide +kernel⟩
abbrev s_require_place : Stmt := top 14
abbrev N_require_place : List Str := ["size", "place", "name"]
theorem sc_require_place : FnScope N_require_place ["size", "place", "name"] (defScope s_require_place) := ⟨rfl, rfl, rfl, by decide +kernel, rfl, by decide +kernel, by decide +kernel⟩
abbrev s_require_limit : Stmt := top 15
abbrev N_require_limit : List Str := ["number", "limit"]
theorem sc_require_limit : FnScope N_require_limit ["number", "limit"] (defScope s_require_limit) := ⟨rfl, rfl, rfl, by decide +kernel, rfl, by decide +kernel, by decide +kernel⟩
abbrev s_require_counts : Stmt := top 16
abbrev N_require_counts : List Str := ["targets", "counts", "index", "count"]
theorem sc_require_counts : FnScope N_require_counts ["targets", "counts"] (defScope s_require_counts) := ⟨rfl, rfl, rfl, by decide +kernel, rfl, by decide +kernel, by decide +kernel⟩
abbrev s_require_sum : Stmt := top 17
abbrev N_require_sum : List Str := ["size", "targets", "place", "counts", "total", "value", "count", "target"]
theorem sc_require_sum : FnScope N_require_sum ["size", "targets", "place", "counts", "total"] (defScope s_require_sum) := ⟨rfl, rfl, rfl, by decide +kernel, rfl, by decide +kernel, by decide +kernel⟩
abbrev s_check_sum : Stmt := top 18
abbrev N_check_sum : List Str := ["size", "targets", "place", "calls", "counts"]
theorem sc_check_sum : FnScope N_check_sum ["size", "targets", "place", "calls", "counts"] (defScope s_check_sum) := ⟨rfl, rfl, rfl, by decide +kernel, rfl, by decide +kernel, by decide +kernel⟩
abbrev s_law_cell_at : Stmt := top 20
abbrev N_law_cell_at : List Str := ["_law_script", "_law_k"]
theorem sc_law_cell_at : FnScope N_law_cell_at ["_law_script", "_law_k"] (defScope s_law_cell_at) := ⟨rfl, rfl, rfl, by decide +kernel, rfl, by decide +kernel, by decide +kernel⟩
abbrev s_law_source : Stmt := top 21
abbrev N_law_source : List Str := ["_law_cell"]
theorem sc_law_source : FnScope N_law_source ["_law_cell"] (defScope s_law_source) := ⟨rfl, rfl, rfl, by decide +kernel, rfl, by decide +kernel, by decide +kernel⟩
abbrev s_law_take : Stmt := top 22
abbrev N_law_take : List Str := ["_law_source_here", "_law_bound", "_law_digit", "_law_prime", "_law_mixed"]
theorem sc_law_take : FnScope N_law_take ["_law_source_here", "_law_bound"] (defScope s_law_take) := ⟨rfl, rfl, rfl, by decide +kernel, rfl, by decide +kernel, by decide +kernel⟩
abbrev s_law_large : Stmt := top 23
abbrev N_law_large : List Str := ["_law_source_here", "_law_bound", "_law_total", "_law_part"]
theorem sc_law_large : FnScope N_law_large ["_law_source_here", "_law_bound"] (defScope s_law_large) := ⟨rfl, rfl, rfl, by decide +kernel, rfl, by decide +kernel, by decide +kernel⟩
abbrev s_law_shuffled : Stmt := top 24
abbrev N_law_shuffled : List Str := ["_law_source_here", "_law_items", "_law_pool", "_law_drawn"]
theorem sc_law_shuffled : FnScope N_law_shuffled ["_law_source_here", "_law_items"] (defScope s_law_shuffled) := ⟨rfl, rfl, rfl, by decide +kernel, rfl, by decide +kernel, by decide +kernel⟩
abbrev s_law_gcd : Stmt := top 25
abbrev N_law_gcd : List Str := ["_law_a", "_law_b"]
theorem sc_law_gcd : FnScope N_law_gcd ["_law_a", "_law_b"] (defScope s_law_gcd) := ⟨rfl, rfl, rfl, by decide +kernel, rfl, by decide +kernel, by decide +kernel⟩
abbrev s_law_inverse : Stmt := top 26
abbrev N_law_inverse : List Str := ["_law_number", "_law_modulus", "_law_low", "_law_high", "_law_quotient"]
theorem sc_law_inverse : FnScope N_law_inverse ["_law_number", "_law_modulus"] (defScope s_law_inverse) := ⟨rfl, rfl, rfl, by decide +kernel, rfl, by decide +kernel, by decide +kernel⟩
abbrev s_law_targets : Stmt := top 27
abbrev N_law_targets : List Str := ["_law_source_here", "_law_ring", "_law_bound", "_law_found", "_law_turn", "_law_spot"]
theorem sc_law_targets : FnScope N_law_targets ["_law_source_here", "_law_ring", "_law_bound"] (defScope s_law_targets) := ⟨rfl, rfl, rfl, by decide +kernel, rfl, by decide +kernel, by decide +kernel⟩
abbrev s_law_made : Stmt := top 28
abbrev N_law_made : List Str := ["_law_source_here", "_law_ring", "_law_goals", "_law_depth", "_law_shared", "_law_amounts", "_law_turn", "_law_drawn", "_law_rest", "_law_at", "_law_total", "_law_part", "_law_spot", "_law_amount", "_law_goal"]
theorem sc_law_made : FnScope N_law_made ["_law_source_here", "_law_ring", "_law_goals", "_law_depth"] (defScope s_law_made) := ⟨rfl, rfl, rfl, by decide +kernel, rfl, by decide +kernel, by decide +kernel⟩
abbrev s_law_bad : Stmt := top 29
abbrev N_law_bad : List Str := ["_law_ring", "_law_goals", "_law_spot", "_law_depth", "_law_amounts", "_law_at", "_law_amount", "_law_total", "_law_goal"]
theorem sc_law_bad : FnScope N_law_bad ["_law_ring", "_law_goals", "_law_spot", "_law_depth", "_law_amounts"] (defScope s_law_bad) := ⟨rfl, rfl, rfl, by decide +kernel, rfl, by decide +kernel, by decide +kernel⟩
abbrev s_law_changed : Stmt := top 30
abbrev N_law_changed : List Str := ["_law_source_here", "_law_amounts", "_law_found", "_law_at", "_law_other", "_law_way"]
theorem sc_law_changed : FnScope N_law_changed ["_law_source_here", "_law_amounts"] (defScope s_law_changed) := ⟨rfl, rfl, rfl, by decide +kernel, rfl, by decide +kernel, by decide +kernel⟩
abbrev s_law_said : Stmt := top 31
abbrev N_law_said : List Str := ["_law_ring", "_law_goals", "_law_spot", "_law_depth", "_law_amounts", "_law_found", "e"]
theorem sc_law_said : FnScope N_law_said ["_law_ring", "_law_goals", "_law_spot", "_law_depth", "_law_amounts"] (defScope s_law_said) := ⟨rfl, rfl, rfl, by decide +kernel, rfl, by decide +kernel, by decide +kernel⟩
abbrev s_law : Stmt := top 32
abbrev N_law : List Str := ["_law_script", "_law_cell", "_law_source_here", "_law_power", "_law_rings", "_law_ring", "_law_goals", "_law_depth", "_law_spot", "_law_good", "_law_turn", "_law_amounts", "_law_here", "_law_far", "_law_handed", "_law_before", "_law_due"]
theorem sc_law : FnScope N_law ["_law_script"] (defScope s_law) := ⟨rfl, rfl, rfl, by decide +kernel, rfl, by decide +kernel, by decide +kernel⟩
/-- what the top has written -/
structure TX (K : PySem.W.Frag) (mg : Str → Option Value) where
  f_InvalidWitness_init : Addr
  fd_InvalidWitness_init : FuncData
  F_InvalidWitness_init : Fun K "__init__" "InvalidWitness.__init__" s_InvalidWitness_init f_InvalidWitness_init fd_InvalidWitness_init
  b_InvalidWitness_init : Binds K fd_InvalidWitness_init ["self", "index"] []
  f_is_integer : Addr
  fd_is_integer : FuncData
  F_is_integer : Fun K "is_integer" "is_integer" s_is_integer f_is_integer fd_is_integer
  b_is_integer : Binds K fd_is_integer ["value"] []
  m_is_integer : mg "is_integer" = some (.ref f_is_integer)
  f_is_at_least : Addr
  fd_is_at_least : FuncData
  F_is_at_least : Fun K "is_at_least" "is_at_least" s_is_at_least f_is_at_least fd_is_at_least
  b_is_at_least : Binds K fd_is_at_least ["value", "low"] []
  m_is_at_least : mg "is_at_least" = some (.ref f_is_at_least)
  f_is_between : Addr
  fd_is_between : FuncData
  F_is_between : Fun K "is_between" "is_between" s_is_between f_is_between fd_is_between
  b_is_between : Binds K fd_is_between ["value", "low", "high"] []
  m_is_between : mg "is_between" = some (.ref f_is_between)
  f_require_at_least : Addr
  fd_require_at_least : FuncData
  F_require_at_least : Fun K "require_at_least" "require_at_least" s_require_at_least f_require_at_least fd_require_at_least
  b_require_at_least : Binds K fd_require_at_least ["value", "low", "name"] []
  m_require_at_least : mg "require_at_least" = some (.ref f_require_at_least)
  f_require_places : Addr
  fd_require_places : FuncData
  F_require_places : Fun K "require_places" "require_places" s_require_places f_require_places fd_require_places
  b_require_places : Binds K fd_require_places ["size", "targets"] []
  m_require_places : mg "require_places" = some (.ref f_require_places)
  f_require_place : Addr
  fd_require_place : FuncData
  F_require_place : Fun K "require_place" "require_place" s_require_place f_require_place fd_require_place
  b_require_place : Binds K fd_require_place ["size", "place", "name"] []
  m_require_place : mg "require_place" = some (.ref f_require_place)
  f_require_limit : Addr
  fd_require_limit : FuncData
  F_require_limit : Fun K "require_limit" "require_limit" s_require_limit f_require_limit fd_require_limit
  b_require_limit : Binds K fd_require_limit ["number", "limit"] []
  m_require_limit : mg "require_limit" = some (.ref f_require_limit)
  f_require_counts : Addr
  fd_require_counts : FuncData
  F_require_counts : Fun K "require_counts" "require_counts" s_require_counts f_require_counts fd_require_counts
  b_require_counts : Binds K fd_require_counts ["targets", "counts"] []
  m_require_counts : mg "require_counts" = some (.ref f_require_counts)
  f_require_sum : Addr
  fd_require_sum : FuncData
  F_require_sum : Fun K "require_sum" "require_sum" s_require_sum f_require_sum fd_require_sum
  b_require_sum : Binds K fd_require_sum ["size", "targets", "place", "counts", "total"] []
  m_require_sum : mg "require_sum" = some (.ref f_require_sum)
  f_check_sum : Addr
  fd_check_sum : FuncData
  F_check_sum : Fun K "check_sum" "check_sum" s_check_sum f_check_sum fd_check_sum
  b_check_sum : Binds K fd_check_sum ["size", "targets", "place", "calls", "counts"] []
  m_check_sum : mg "check_sum" = some (.ref f_check_sum)
  f_law_cell_at : Addr
  fd_law_cell_at : FuncData
  F_law_cell_at : Fun K "_law_cell_at" "_law_cell_at" s_law_cell_at f_law_cell_at fd_law_cell_at
  b_law_cell_at : Binds K fd_law_cell_at ["_law_script", "_law_k"] []
  m_law_cell_at : mg "_law_cell_at" = some (.ref f_law_cell_at)
  f_law_source : Addr
  fd_law_source : FuncData
  F_law_source : Fun K "_law_source" "_law_source" s_law_source f_law_source fd_law_source
  b_law_source : Binds K fd_law_source ["_law_cell"] []
  m_law_source : mg "_law_source" = some (.ref f_law_source)
  f_law_take : Addr
  fd_law_take : FuncData
  F_law_take : Fun K "_law_take" "_law_take" s_law_take f_law_take fd_law_take
  b_law_take : Binds K fd_law_take ["_law_source_here", "_law_bound"] []
  m_law_take : mg "_law_take" = some (.ref f_law_take)
  f_law_large : Addr
  fd_law_large : FuncData
  F_law_large : Fun K "_law_large" "_law_large" s_law_large f_law_large fd_law_large
  b_law_large : Binds K fd_law_large ["_law_source_here", "_law_bound"] []
  m_law_large : mg "_law_large" = some (.ref f_law_large)
  f_law_shuffled : Addr
  fd_law_shuffled : FuncData
  F_law_shuffled : Fun K "_law_shuffled" "_law_shuffled" s_law_shuffled f_law_shuffled fd_law_shuffled
  b_law_shuffled : Binds K fd_law_shuffled ["_law_source_here", "_law_items"] []
  m_law_shuffled : mg "_law_shuffled" = some (.ref f_law_shuffled)
  f_law_gcd : Addr
  fd_law_gcd : FuncData
  F_law_gcd : Fun K "_law_gcd" "_law_gcd" s_law_gcd f_law_gcd fd_law_gcd
  b_law_gcd : Binds K fd_law_gcd ["_law_a", "_law_b"] []
  m_law_gcd : mg "_law_gcd" = some (.ref f_law_gcd)
  f_law_inverse : Addr
  fd_law_inverse : FuncData
  F_law_inverse : Fun K "_law_inverse" "_law_inverse" s_law_inverse f_law_inverse fd_law_inverse
  b_law_inverse : Binds K fd_law_inverse ["_law_number", "_law_modulus"] []
  m_law_inverse : mg "_law_inverse" = some (.ref f_law_inverse)
  f_law_targets : Addr
  fd_law_targets : FuncData
  F_law_targets : Fun K "_law_targets" "_law_targets" s_law_targets f_law_targets fd_law_targets
  b_law_targets : Binds K fd_law_targets ["_law_source_here", "_law_ring", "_law_bound"] []
  m_law_targets : mg "_law_targets" = some (.ref f_law_targets)
  f_law_made : Addr
  fd_law_made : FuncData
  F_law_made : Fun K "_law_made" "_law_made" s_law_made f_law_made fd_law_made
  b_law_made : Binds K fd_law_made ["_law_source_here", "_law_ring", "_law_goals", "_law_depth"] []
  m_law_made : mg "_law_made" = some (.ref f_law_made)
  f_law_bad : Addr
  fd_law_bad : FuncData
  F_law_bad : Fun K "_law_bad" "_law_bad" s_law_bad f_law_bad fd_law_bad
  b_law_bad : Binds K fd_law_bad ["_law_ring", "_law_goals", "_law_spot", "_law_depth", "_law_amounts"] []
  m_law_bad : mg "_law_bad" = some (.ref f_law_bad)
  f_law_changed : Addr
  fd_law_changed : FuncData
  F_law_changed : Fun K "_law_changed" "_law_changed" s_law_changed f_law_changed fd_law_changed
  b_law_changed : Binds K fd_law_changed ["_law_source_here", "_law_amounts"] []
  m_law_changed : mg "_law_changed" = some (.ref f_law_changed)
  f_law_said : Addr
  fd_law_said : FuncData
  F_law_said : Fun K "_law_said" "_law_said" s_law_said f_law_said fd_law_said
  b_law_said : Binds K fd_law_said ["_law_ring", "_law_goals", "_law_spot", "_law_depth", "_law_amounts"] []
  m_law_said : mg "_law_said" = some (.ref f_law_said)
  f_law : Addr
  fd_law : FuncData
  F_law : Fun K "law" "law" s_law f_law fd_law
  b_law : Binds K fd_law ["_law_script"] []
  m_law : mg "law" = some (.ref f_law)
  C_InvalidWitness : Addr
  m_InvalidWitness : mg "InvalidWitness" = some (.ref C_InvalidWitness)
  ox_InvalidWitness : OexC K C_InvalidWitness
  xf_InvalidWitness : XfC K C_InvalidWitness
  i_InvalidWitness : PySem.W.findIn K (.ref C_InvalidWitness) "__init__" = some (some (.ref f_InvalidWitness_init))
  ti_InvalidWitness : PySem.W.typeIn K (.ref f_InvalidWitness_init) = some (.type "function")
  em_InvalidWitness : PySem.W.exmOne K (.ref C_InvalidWitness) (.ref C_InvalidWitness) = some true
  n_InvalidWitness_index : PySem.W.findIn K (.ref C_InvalidWitness) "index" = some none
  sysd : PySem.W.typeIn K (.ref sysModules) = some (.type "dict")
  t_MAX_CHECKED_CALLS : Tok
  c_MAX_CHECKED_CALLS : mg "MAX_CHECKED_CALLS" = some (.int 1000 t_MAX_CHECKED_CALLS)
  z_abs : mg "abs" = none
  z_bool : mg "bool" = none
  z_enumerate : mg "enumerate" = none
  z_int : mg "int" = none
  z_isinstance : mg "isinstance" = none
  z_len : mg "len" = none
  z_list : mg "list" = none
  z_max : mg "max" = none
  z_min : mg "min" = none
  z_range : mg "range" = none
  z_repr : mg "repr" = none
  z_sum : mg "sum" = none
  z_tuple : mg "tuple" = none
  z_zip : mg "zip" = none
/-- not an int (a bool is none) -/
def NotI (K : PySem.W.Frag) (H : Hp) (x : V) : Prop := ∃ t b1 b2, TyX K H x t ∧ PySem.W.kitOne K t (.type "int") = some b1 ∧ PySem.W.kitOne K t (.type "bool") = some b2 ∧ (b1 && !b2) = false
/-- what x is, if an int -/
def IsI (K : PySem.W.Frag) (H : Hp) (x : V) : Option Int → Prop
  | some i => x = .int i
  | none => NotI K H x
def atLeast : Option Int → Int → Bool
  | some i, low => decide (low ≤ i)
  | none, _ => false
def between : Option Int → Int → Int → Bool
  | some i, low, high => decide (low ≤ i) && decide (i ≤ high)
  | none, _, _ => false

section
variable {P : Program} {w : World} {K : PySem.W.Frag} {mg : Str → Option Value} {base : Heap}
def sp_is_integer (K : PySem.W.Frag) : Sp := fun vs H Q _ => ∃ x o, vs = [x] ∧ IsI K H x o ∧ Q (.bl o.isSome) H
theorem ok_is_integer (T : TX K mg) : FnOk P w K mg base CX0 1 T.f_is_integer T.fd_is_integer ["value"] (sp_is_integer K) := by
  refine T.F_is_integer.ok sc_is_integer (fun vs H Q E h => ?_) (fun cdv A outer s H vs Q E hr h => ?_)
  · obtain ⟨x, o, rfl, _⟩ := h
    rfl
  · obtain ⟨x, o, rfl, hx, k⟩ := h
    refine ⟨_, (pss_one (ps_ret (pe_and (pe_callB call_isi (by rfl) T.z_isinstance (by decide +kernel) (pa_cons (pv 0) (pa_cons (pe_bltn (v := .ty "int") rfl T.z_int (by decide +kernel) rfl) pa_nil))) (pe_one (pe_not (pe_callB call_isi (by rfl) T.z_isinstance (by decide +kernel) (pa_cons (pv 0) (pa_cons (pe_bltn (v := .ty "bool") rfl T.z_bool (by decide +kernel) rfl) pa_nil)))))))), ?_⟩
    cases o with
    | some i =>
      cases hx
      exact ⟨_, rfl, _, _, _, _, true, rfl, .ty _, .base (.int i), kit_ty (by decide +kernel), _, rfl, _, rfl, _, _, _, _, false, rfl, .ty _, .base (.int i), kit_ty (by decide +kernel), _, rfl, k⟩
    | none =>
      obtain ⟨t, b1, b2, ht, h1, h2, hb⟩ := hx
      refine ⟨_, rfl, _, _, _, _, b1, rfl, .ty _, ht, h1, _, rfl, ?_⟩
      cases b1 with
      | false => exact k
      | true =>
        refine ⟨_, rfl, _, _, _, _, b2, rfl, .ty _, ht, h2, _, rfl, ?_⟩
        have e : (!b2) = false := hb
        rw [e]
        exact k
def sp_is_at_least (K : PySem.W.Frag) : Sp := fun vs H Q _ => ∃ x o low, vs = [x, .int low] ∧ IsI K H x o ∧ Q (.bl (atLeast o low)) H
theorem ok_is_at_least (T : TX K mg) : FnOk P w K mg base CX0 2 T.f_is_at_least T.fd_is_at_least ["value", "low"] (sp_is_at_least K) := by
  refine T.F_is_at_least.ok sc_is_at_least (fun vs H Q E h => ?_) (fun cdv A outer s H vs Q E hr h => ?_)
  · obtain ⟨x, o, low, rfl, _⟩ := h
    rfl
  · obtain ⟨x, o, low, rfl, hx, k⟩ := h
    refine ⟨_, (pss_one (ps_ret (pe_and (pe_call (ok_is_integer T) hr rfl T.m_is_integer T.F_is_integer.kp T.b_is_integer .nil pass0 (pa_cons (pv 0) pa_nil)) (pe_one (pe_cmpR op_ge (pv 0) (pv 1) (nomark _)))))), ?_⟩
    refine ⟨_, rfl, x, o, rfl, hx, _, rfl, ?_⟩
    cases o with
    | none => exact k
    | some i =>
      cases hx
      exact ⟨_, rfl, _, rfl, _, _, rfl, rfl, k⟩
def sp_is_between (K : PySem.W.Frag) : Sp := fun vs H Q _ => ∃ x o low high, vs = [x, .int low, .int high] ∧ IsI K H x o ∧ Q (.bl (between o low high)) H
theorem ok_is_between (T : TX K mg) : FnOk P w K mg base CX0 2 T.f_is_between T.fd_is_between ["value", "low", "high"] (sp_is_between K) := by
  refine T.F_is_between.ok sc_is_between (fun vs H Q E h => ?_) (fun cdv A outer s H vs Q E hr h => ?_)
  · obtain ⟨x, o, low, high, rfl, _⟩ := h
    rfl
  · obtain ⟨x, o, low, high, rfl, hx, k⟩ := h
    refine ⟨_, (pss_one (ps_ret (pe_and (pe_call (ok_is_integer T) hr rfl T.m_is_integer T.F_is_integer.kp T.b_is_integer .nil pass0 (pa_cons (pv 0) pa_nil)) (pe_one (pe_chain op_le op_le (pv 1) (pv 0) (pv 2)))))), ?_⟩
    refine ⟨_, rfl, x, o, rfl, hx, _, rfl, ?_⟩
    cases o with
    | none => exact k
    | some i =>
      cases hx
      refine ⟨_, rfl, _, rfl, _, _, rfl, rfl, _, rfl, ?_⟩
      refine ite2 (fun c => ?_) (fun c => ?_)
      · have c1 : low ≤ i := of_decide_eq_true c
        refine ⟨_, rfl, _, _, rfl, rfl, ?_⟩
        have e : between (some i) low high = decide (i ≤ high) := by show (decide (low ≤ i) && decide (i ≤ high)) = _; rw [c]; rfl
        rw [e] at k
        exact k
      · have e : between (some i) low high = false := by show (decide (low ≤ i) && decide (i ≤ high)) = _; rw [Bool.eq_false_iff.mpr c]; rfl
        rw [e] at k
        exact k
end

/-- a table of these sizes stands at a -/
def TabAt (C : Addr) (H : Hp) (a : Addr) (ns : List Int) : Prop := ∃ dx t, H a = some (.ins C dx [("rings", .ref t)]) ∧ H t = some (.tup (ns.map V.int))
theorem TabAt.mono {C : Addr} {H H2 : Hp} {a : Addr} {ns : List Int} (e : Ex H H2) (h : TabAt C H a ns) : TabAt C H2 a ns := by
  obtain ⟨dx, t, h1, h2⟩ := h
  exact ⟨dx, t, e _ _ h1, e _ _ h2⟩
/-- a tracked list (false) or tuple (true) -/
def SqH (H : Hp) (p : Bool × Addr) (xs : List V) : Prop := if p.1 = true then H p.2 = some (.tup xs) else H p.2 = some (.lst xs)
theorem SqH.sq {K : PySem.W.Frag} {H : Hp} {p : Bool × Addr} {xs : List V} (h : SqH H p xs) : CZ.SqK K H p xs := by
  obtain ⟨b, a⟩ := p
  cases b
  · exact SqL.of (show H a = some (.lst xs) from h)
  · exact SqT.of (show H a = some (.tup xs) from h)
theorem SqH.mono {H H2 : Hp} {p : Bool × Addr} {xs : List V} (e : Ex H H2) (h : SqH H p xs) : SqH H2 p xs := by
  obtain ⟨b, a⟩ := p
  cases b
  · exact e _ _ (show H a = some (.lst xs) from h)
  · exact e _ _ (show H a = some (.tup xs) from h)
theorem SqH.ty {K : PySem.W.Frag} {H : Hp} {p : Bool × Addr} {xs : List V} (h : SqH H p xs) : TyX K H (.ref p.2) (.type (if p.1 = true then "tuple" else "list")) := by
  obtain ⟨b, a⟩ := p
  cases b
  · exact .base (.lst (show H a = some (.lst xs) from h))
  · exact .base (.tup (show H a = some (.tup xs) from h))
/-- sizes of a table -/
structure SzOk (ns : List Int) : Prop where
  pos : ns ≠ []
  le : ns.length ≤ 4
  one : ∀ n ∈ ns, 1 ≤ n
theorem len_line {α : Type} {l : List α} (h : l.length ≤ 4) : l.length ≤ sizeLine := Nat.le_trans h (by decide)
theorem take_lt {α : Type} {l : List α} (h : l.length ≤ 1000) (i : Nat) : (l.take i).length < sizeLine := by
  rw [List.length_take]
  exact Nat.lt_of_le_of_lt (Nat.le_trans (Nat.min_le_right _ _) h) (by decide)
theorem take_more {α : Type} {l : List α} {i : Nat} {x : α} (h : l[i]? = some x) : l.take (i + 1) = l.take i ++ [x] := by
  rw [List.take_add_one, h]
  rfl
theorem kit_seq {K : PySem.W.Frag} (b : Bool) : PySem.W.kitAny K (.type (if b = true then "tuple" else "list")) [.type "list", .type "tuple"] = some true := by
  cases b
  · exact kitAny_cons (b := true) (kit_ty (by decide +kernel)) (fun h => nomatch h) (fun _ => rfl)
  · exact kitAny_cons (b := false) (kit_ty (by decide +kernel)) (fun _ => kitAny_cons (b := true) (kit_ty (by decide +kernel)) (fun h => nomatch h) (fun _ => rfl)) (fun h => nomatch h)
theorem sq_or {K : PySem.W.Frag} {H : Hp} {b : Bool} {a : Addr} {xs : List V} (h : SqH H (b, a) xs) : SqL K H a xs ∨ SqT K H a xs := by
  cases b
  · exact .inl (SqL.of (show H a = some (.lst xs) from h))
  · exact .inr (SqT.of (show H a = some (.tup xs) from h))
section
variable {P : Program} {w : World} {K : PySem.W.Frag} {mg : Str → Option Value} {base : Heap}
end

theorem TyX.mono {K : PySem.W.Frag} {H H2 : Hp} {x : V} {t : Value} (e : Ex H H2) (h : TyX K H x t) : TyX K H2 x t := by
  cases h with
  | base h =>
    cases h with
    | non => exact .base .non
    | bl x => exact .base (.bl x)
    | int x => exact .base (.int x)
    | str x => exact .base (.str x)
    | flt x => exact .base (.flt x)
    | lst h => exact .base (.lst (e _ _ h))
    | frz h => exact .base (.frz (e _ _ h))
    | tup h => exact .base (.tup (e _ _ h))
    | dK h => exact .base (.dK (e _ _ h))
    | dT h => exact .base (.dT (e _ _ h))
    | ins h a b c d f => exact .base (.ins (e _ _ h) a b c d f)
  | byt b => exact .byt b
  | set h => exact .set (e _ _ h)
  | kList a b => exact .kList a b
  | kTuple a b => exact .kTuple a b
  | kDict a b => exact .kDict a b
  | fTuple h => exact .fTuple (e _ _ h)
  | fDict h => exact .fDict (e _ _ h)
theorem IsI.mono {K : PySem.W.Frag} {H H2 : Hp} {x : V} {o : Option Int} (e : Ex H H2) (h : IsI K H x o) : IsI K H2 x o := by
  cases o with
  | some i => exact h
  | none =>
    obtain ⟨t, b1, b2, ht, r⟩ := h
    exact ⟨t, b1, b2, TyX.mono e ht, r⟩
theorem paired_get {α β : Type} {R : α → β → Prop} : ∀ {l : List α} {m : List β} {i : Nat} {x : α}, Paired R l m → l[i]? = some x → ∃ y, m[i]? = some y ∧ R x y
  | _, _, _, _, .nil, h => by simp at h
  | _, _, 0, _, .cons r _, h => by simp at h; subst h; exact ⟨_, rfl, r⟩
  | _, _, i + 1, x, .cons _ t, h => by
    obtain ⟨y, h1, h2⟩ := paired_get (i := i) (x := x) t (by simpa using h)
    exact ⟨y, by simpa using h1, h2⟩
/-- what an argument is as a tuple: its items, as ints or not -/
def TupA (K : PySem.W.Frag) (H : Hp) (x : V) : Option (List (Option Int)) → Prop
  | some os => ∃ a xs, x = .ref a ∧ H a = some (.tup xs) ∧ xs.length ≤ 1000 ∧ Paired (IsI K H) xs os
  | none => ∃ t, TyX K H x t ∧ PySem.W.kitOne K t (.type "tuple") = some false
theorem paired_ints {K : PySem.W.Frag} {H : Hp} : ∀ ps : List Int, Paired (IsI K H) (ps.map V.int) (ps.map some)
  | [] => .nil
  | p :: ps => .cons rfl (paired_ints ps)
theorem TupA.ints {K : PySem.W.Frag} {H : Hp} {a : Addr} {ps : List Int} (h : H a = some (.tup (ps.map V.int))) (hl : ps.length ≤ 1000) : TupA K H (.ref a) (some (ps.map some)) :=
  ⟨a, _, rfl, h, by rw [List.length_map]; exact hl, paired_ints ps⟩
def isSeatO (ns : List Int) : Option (List (Option Int)) → Bool
  | some os => decide (os.length = ns.length) && (List.zipWith (fun o n => between o 0 (n - 1)) os ns).all id
  | none => false
def isCallO (ns : List Int) : Option (List (Option Int)) → Bool
  | some os => decide (os.length = ns.length) && (os.map Option.isSome).all id
  | none => false
/-- a seat: one place a ring -/
def SeatOk : List Int → List Int → Prop
  | n :: ns, p :: ps => (0 ≤ p ∧ p < n) ∧ SeatOk ns ps
  | [], [] => True
  | _, _ => False
theorem SeatOk.len : ∀ {ns ps : List Int}, SeatOk ns ps → ps.length = ns.length
  | [], [], _ => rfl
  | _ :: _, _ :: _, h => by
    show _ + 1 = _ + 1
    rw [SeatOk.len h.2]
theorem seat_is : ∀ {ns ps : List Int}, SeatOk ns ps → (List.zipWith (fun o n => between o 0 (n - 1)) (ps.map some) ns).all id = true
  | [], [], _ => rfl
  | n :: ns, p :: ps, h => by
    have ih := seat_is h.2
    show (between (some p) 0 (n - 1) && _) = true
    rw [Bool.and_eq_true]
    refine ⟨?_, ih⟩
    show (decide (0 ≤ p) && decide (p ≤ n - 1)) = true
    rw [decide_eq_true h.1.1, decide_eq_true (by have := h.1.2; omega)]
    rfl
theorem isSeat_ok {ns ps : List Int} (h : SeatOk ns ps) : isSeatO ns (some (ps.map some)) = true := by
  show (decide ((ps.map some).length = ns.length) && _) = true
  rw [Bool.and_eq_true]
  exact ⟨decide_eq_true (by rw [List.length_map]; exact h.len), seat_is h⟩
theorem isCall_ok {ns cs : List Int} (h : cs.length = ns.length) : isCallO ns (some (cs.map some)) = true := by
  show (decide ((cs.map some).length = ns.length) && _) = true
  rw [Bool.and_eq_true]
  refine ⟨decide_eq_true (by rw [List.length_map]; exact h), ?_⟩
  rw [List.map_map, List.all_map, List.all_eq_true]
  exact fun _ _ => rfl
/-- a step by a multiple of a call -/
def shiftL : List Int → List Int → List Int → Int → List Int
  | n :: ns, p :: ps, c :: cs, f => (p + f * c) % n :: shiftL ns ps cs f
  | _, _, _, _ => []
theorem shift_len : ∀ {ns ps cs : List Int} {f : Int}, ps.length = ns.length → cs.length = ns.length → (shiftL ns ps cs f).length = ns.length
  | [], _, _, _, _, _ => by simp [shiftL]
  | _ :: ns, p :: ps, c :: cs, f, h1, h2 => by
    have ih := @shift_len ns ps cs f (by simpa using h1) (by simpa using h2)
    show (shiftL ns ps cs f).length + 1 = _ + 1
    rw [ih]
theorem shift_get : ∀ {ns ps cs : List Int} {f : Int} {i : Nat} {n p c : Int}, ns[i]? = some n → ps[i]? = some p → cs[i]? = some c → (shiftL ns ps cs f)[i]? = some ((p + f * c) % n)
  | n :: ns, p :: ps, c :: cs, f, 0, _, _, _, h1, h2, h3 => by
    simp at h1 h2 h3
    subst h1 h2 h3
    rfl
  | n :: ns, p :: ps, c :: cs, f, i + 1, a, b, d, h1, h2, h3 => by
    have ih := @shift_get ns ps cs f i a b d (by simpa using h1) (by simpa using h2) (by simpa using h3)
    show (shiftL ns ps cs f)[i]? = _
    exact ih
  | [], _, _, _, i, _, _, _, h1, _, _ => by simp at h1
  | _ :: _, [], _, _, i, _, _, _, _, h2, _ => by simp at h2
  | _ :: _, _ :: _, [], _, i, _, _, _, _, _, h3 => by simp at h3
theorem mul_ok {i j : Int} (h : (-(2 ^ 64) < i ∧ i < 2 ^ 64) ∨ (-(2 ^ 64) < j ∧ j < 2 ^ 64)) : IntMulOk i j := CMul.ok h
theorem zip_get {α β γ : Type} {f : α → β → γ} {l : List α} {m : List β} {i : Nat} {x : α} {y : β} (h1 : l[i]? = some x) (h2 : m[i]? = some y) : (List.zipWith f l m)[i]? = some (f x y) := by
  rw [List.getElem?_zipWith, h1, h2]
section
variable {P : Program} {w : World} {K : PySem.W.Frag} {mg : Str → Option Value} {base : Heap}
end

/-- all but what is at s stays -/
def XB (s : Addr) (H H2 : Hp) : Prop := ∀ c o, c ≠ s → H c = some o → H2 c = some o
theorem XB.refl {s : Addr} {H : Hp} : XB s H H := fun _ _ _ h => h
theorem XB.trans {s : Addr} {H H1 H2 : Hp} (a : XB s H H1) (b : XB s H1 H2) : XB s H H2 := fun c o n h => b c o n (a c o n h)
theorem XB.upd {s : Addr} {H : Hp} {o : HO} : XB s H (upd H s o) := fun c u n h => by rw [upd_ne n]; exact h
theorem XB.of {s : Addr} {H H2 : Hp} (e : Ex H H2) : XB s H H2 := fun c o _ h => e c o h
theorem XB.back {s : Addr} {H H2 : Hp} (e : XB s H H2) {p : Addr} (hn : p ≠ s) (h : H2 p = none) : H p = none := by
  cases q : H p with
  | none => rfl
  | some o => rw [e p o hn q] at h; cases h
theorem mod_lo {i n : Int} (h : 0 < n) : 0 ≤ i % n := Int.emod_nonneg i (by omega)
theorem mod_hi {i n : Int} (h : 0 < n) : i % n < n := Int.emod_lt_of_pos i h

theorem at_ex {xs : List Int} {r : Int} (h0 : 0 ≤ r) (h1 : r < xs.length) : ∃ v, v ∈ xs ∧ atI (xs.map V.int) r = some (.int v) := by
  obtain ⟨j, rfl⟩ : ∃ j : Nat, r = (j : Int) := ⟨r.toNat, by omega⟩
  have hj : j < xs.length := by omega
  refine ⟨xs[j], List.getElem_mem hj, atI_nat ?_⟩
  rw [List.getElem?_map, List.getElem?_eq_getElem hj]
  rfl
theorem pow2_pos (k : Nat) : (1 : Int) ≤ 2 ^ k := by
  have h : 0 < 2 ^ k := Nat.pow_pos (by decide)
  have e : ((2 ^ k : Nat) : Int) = (2 : Int) ^ k := by simp
  omega
theorem pow2_le {j k : Nat} (h : j ≤ k) : (2 : Int) ^ j ≤ 2 ^ k := by
  have h1 : 2 ^ j ≤ 2 ^ k := Nat.pow_le_pow_right (by decide) h
  have e1 : ((2 ^ j : Nat) : Int) = (2 : Int) ^ j := by simp
  have e2 : ((2 ^ k : Nat) : Int) = (2 : Int) ^ k := by simp
  omega
theorem shl_one {r : Int} (h0 : 0 ≤ r) (h1 : r ≤ 1000) : CShl 1 r := by
  obtain ⟨j, rfl⟩ : ∃ j : Nat, r = (j : Int) := ⟨r.toNat, by omega⟩
  exact shl_ok (n := 1) (by decide) (by omega)

/-! ### data -/
mutual
theorem eqv_refl : ∀ d : PyData, d.canLay0 = true → PyData.eqv d d = true
  | .none, _ => by simp only [PyData.eqv]
  | .bool b, _ => by simp only [PyData.eqv, beq_self_eq_true]
  | .int i, _ => by simp only [PyData.eqv, beq_self_eq_true]
  | .str x, _ => by simp only [PyData.eqv, beq_self_eq_true]
  | .list xs, h => by
    simp only [PyData.canLay0] at h
    simp only [PyData.eqv]
    exact eqvAll_refl xs h
  | .tuple xs, h => by
    simp only [PyData.canLay0] at h
    simp only [PyData.eqv]
    exact eqvAll_refl xs h
  | .dict _, h => by simp [PyData.canLay0] at h
theorem eqvAll_refl : ∀ ds : List PyData, PyData.canLayAll0 ds = true → PyData.eqvAll ds ds = true
  | [], _ => by simp only [PyData.eqvAll]
  | d :: ds, h => by
    simp only [PyData.canLayAll0, Bool.and_eq_true] at h
    simp only [PyData.eqvAll, Bool.and_eq_true]
    exact ⟨eqv_refl d h.1, eqvAll_refl ds h.2⟩
end
/-- data of a depth below n, in a form that may be laid -/
def Sh (n : Nat) (d : PyData) : Prop := d.canLay0 = true ∧ d.depth ≤ n
theorem Sh.ok {d : PyData} (h : Sh 60 d) : SeqAt.shaped d = true := by
  unfold SeqAt.shaped
  rw [h.1, decide_eq_true (Nat.le_trans h.2 (by decide))]
  rfl
theorem sh_int {n : Nat} (i : Int) : Sh n (.int i) := ⟨by simp only [PyData.canLay0], by simp only [PyData.depth]; omega⟩
theorem sh_bool {n : Nat} (i : Bool) : Sh n (.bool i) := ⟨by simp only [PyData.canLay0], by simp only [PyData.depth]; omega⟩
theorem sh_none {n : Nat} : Sh n .none := ⟨by simp only [PyData.canLay0], by simp only [PyData.depth]; omega⟩
theorem sh_all {n : Nat} : ∀ {ds : List PyData}, (∀ d ∈ ds, Sh n d) → PyData.canLayAll0 ds = true ∧ PyData.depthAll ds ≤ n
  | [], _ => ⟨by simp only [PyData.canLayAll0], by simp only [PyData.depthAll]; omega⟩
  | d :: ds, h => by
    obtain ⟨h1, h2⟩ := h d List.mem_cons_self
    obtain ⟨g1, g2⟩ := sh_all fun x hx => h x (List.mem_cons_of_mem _ hx)
    refine ⟨by simp only [PyData.canLayAll0, h1, g1, Bool.and_self], ?_⟩
    simp only [PyData.depthAll]
    omega
theorem sh_tuple {n : Nat} {ds : List PyData} (h : ∀ d ∈ ds, Sh n d) : Sh (n + 1) (.tuple ds) := by
  obtain ⟨h1, h2⟩ := sh_all h
  exact ⟨by simp only [PyData.canLay0, h1], by simp only [PyData.depth]; omega⟩
theorem sh_list {n : Nat} {ds : List PyData} (h : ∀ d ∈ ds, Sh n d) : Sh (n + 1) (.list ds) := by
  obtain ⟨h1, h2⟩ := sh_all h
  exact ⟨by simp only [PyData.canLay0, h1], by simp only [PyData.depth]; omega⟩
theorem Sh.up {n m : Nat} {d : PyData} (h : Sh n d) (e : n ≤ m) : Sh m d := ⟨h.1, Nat.le_trans h.2 e⟩
/-- a tuple of ints -/
abbrev iT (ns : List Int) : PyData := .tuple (ns.map PyData.int)
theorem sh_ints {n : Nat} (ns : List Int) : Sh (n + 1) (iT ns) := sh_tuple fun d hd => by
  obtain ⟨i, _, rfl⟩ := List.mem_map.mp hd
  exact sh_int i
theorem dpall_ints {K : PySem.W.Frag} {H : Hp} : ∀ ns : List Int, DpAll K H (ns.map V.int) (ns.map PyData.int)
  | [] => .nil
  | n :: ns => .cons (.int n) (dpall_ints ns)
theorem dp_ints {K : PySem.W.Frag} {H : Hp} {a : Addr} {ns : List Int} (h : H a = some (.tup (ns.map V.int))) : Dp K H (.ref a) (iT ns) := .tup (SqT.of h) (dpall_ints ns)
theorem eqvAll_ints : ∀ ns ms : List Int, PyData.eqvAll (ns.map PyData.int) (ms.map PyData.int) = decide (ns = ms)
  | [], [] => by simp [PyData.eqvAll]
  | [], _ :: _ => by simp [PyData.eqvAll]
  | _ :: _, [] => by simp [PyData.eqvAll]
  | n :: ns, m :: ms => by
    have ih := eqvAll_ints ns ms
    simp only [List.map_cons, PyData.eqvAll, PyData.eqv, ih]
    by_cases h : n = m
    · subst h
      simp
    · have : (n == m) = false := by simpa using h
      rw [this]
      simp [h]
theorem eqv_ints (ns ms : List Int) : PyData.eqv (iT ns) (iT ms) = decide (ns = ms) := by
  simp only [PyData.eqv]
  exact eqvAll_ints ns ms
theorem sh_pair {n : Nat} {a b : PyData} (ha : Sh n a) (hb : Sh n b) : Sh (n + 1) (.tuple [a, b]) := sh_tuple fun d hd => by
  rcases List.mem_cons.mp hd with e | e
  · rw [e]; exact ha
  · rw [List.mem_singleton.mp e]; exact hb
theorem eqv_same {d : PyData} (h : Sh 60 d) : (!PyData.eqv d d) = false := by rw [eqv_refl d h.1]; rfl

/-- the greatest common divisor -/
abbrev gcdI (a b : Int) : Int := ((Int.gcd a b : Nat) : Int)
theorem gcd_pos2 {p n : Int} (h : 1 ≤ n) : 0 < Int.gcd p n := Int.gcd_pos_of_ne_zero_right _ (by omega)
theorem gcd_turn {a b : Int} (hb : b ≠ 0) : Int.gcd b (a % b) = Int.gcd a b := by
  rw [Int.gcd_comm b, Int.emod_def, Int.sub_eq_add_neg, ← Int.mul_neg, Int.gcd_add_mul_left_left]
theorem abs45 {n : Int} (h1 : 0 ≤ n) (h2 : n ≤ 10 ^ 45) : n.natAbs < 2 ^ 150 := by
  have h5 : (10 : Int) ^ 45 < 2 ^ 150 := by decide
  have h8 : ((2 ^ 150 : Nat) : Int) = (2 : Int) ^ 150 := by simp
  omega
section
variable {P : Program} {w : World} {K : PySem.W.Frag} {mg : Str → Option Value} {base : Heap}
end

/-! ### zip's rows, nested comprehensions, lists of tuples of ints -/
theorem yrow2 {xs ys : List V} {i : Nat} {H H2 : Hp} {x : V} (h : CZ.YRow [xs, ys] i H x H2) : ∃ (Ta : Addr) (a b : V), x = .ref Ta ∧ H Ta = none ∧ H2 = upd H Ta (.tup [a, b]) ∧ xs[i]? = some a ∧ ys[i]? = some b := by
  obtain ⟨Ta, vs, rfl, hT, rfl, r⟩ := h
  cases r with
  | cons r1 r =>
    cases r with
    | cons r2 r =>
      cases r
      exact ⟨Ta, _, _, rfl, hT, rfl, r1, r2⟩
theorem yrow3 {xs ys zs : List V} {i : Nat} {H H2 : Hp} {x : V} (h : CZ.YRow [xs, ys, zs] i H x H2) : ∃ (Ta : Addr) (a b c : V), x = .ref Ta ∧ H Ta = none ∧ H2 = upd H Ta (.tup [a, b, c]) ∧ xs[i]? = some a ∧ ys[i]? = some b ∧ zs[i]? = some c := by
  obtain ⟨Ta, vs, rfl, hT, rfl, r⟩ := h
  cases r with
  | cons r1 r =>
    cases r with
    | cons r2 r =>
      cases r with
      | cons r3 r =>
        cases r
        exact ⟨Ta, _, _, _, rfl, hT, rfl, r1, r2, r3⟩
theorem yints2 {xs ys : List Int} {i : Nat} {H H2 : Hp} {x : V} (h : CZ.YRow [xs.map V.int, ys.map V.int] i H x H2) : ∃ (Ta : Addr) (a b : Int), x = .ref Ta ∧ H Ta = none ∧ H2 = upd H Ta (.tup [.int a, .int b]) ∧ xs[i]? = some a ∧ ys[i]? = some b := by
  obtain ⟨Ta, a, b, rfl, hT, rfl, r1, r2⟩ := yrow2 h
  obtain ⟨p, hp, rfl⟩ := map_get r1
  obtain ⟨q, hq, rfl⟩ := map_get r2
  exact ⟨Ta, p, q, rfl, hT, rfl, hp, hq⟩
theorem yints3 {xs ys zs : List Int} {i : Nat} {H H2 : Hp} {x : V} (h : CZ.YRow [xs.map V.int, ys.map V.int, zs.map V.int] i H x H2) : ∃ (Ta : Addr) (a b c : Int), x = .ref Ta ∧ H Ta = none ∧ H2 = upd H Ta (.tup [.int a, .int b, .int c]) ∧ xs[i]? = some a ∧ ys[i]? = some b ∧ zs[i]? = some c := by
  obtain ⟨Ta, a, b, c, rfl, hT, rfl, r1, r2, r3⟩ := yrow3 h
  obtain ⟨p, hp, rfl⟩ := map_get r1
  obtain ⟨q, hq, rfl⟩ := map_get r2
  obtain ⟨r, hr, rfl⟩ := map_get r3
  exact ⟨Ta, p, q, r, rfl, hT, rfl, hp, hq, hr⟩
theorem all2 {K : PySem.W.Frag} {H : Hp} {p q : Bool × Addr} {xs ys : List V} (hp : CZ.SqK K H p xs) (hq : CZ.SqK K H q ys) : ∀ r ∈ [p, q], ∃ zs, CZ.SqK K H r zs := fun r hr => by
  rcases List.mem_cons.mp hr with e | hr
  · rw [e]; exact ⟨_, hp⟩
  · rw [List.mem_singleton.mp hr]; exact ⟨_, hq⟩
theorem all3 {K : PySem.W.Frag} {H : Hp} {p q t : Bool × Addr} {xs ys us : List V} (hp : CZ.SqK K H p xs) (hq : CZ.SqK K H q ys) (ht : CZ.SqK K H t us) : ∀ r ∈ [p, q, t], ∃ zs, CZ.SqK K H r zs := fun r hr => by
  rcases List.mem_cons.mp hr with e | hr
  · rw [e]; exact ⟨_, hp⟩
  · exact all2 hq ht r hr
theorem lens2 {xs ys : List V} {n : Nat} (h1 : xs.length = n) (h2 : ys.length = n) : ∀ zs ∈ [xs, ys], zs.length = n := fun zs hz => by
  rcases List.mem_cons.mp hz with e | hz
  · rw [e]; exact h1
  · rw [List.mem_singleton.mp hz]; exact h2
theorem lens3 {xs ys us : List V} {n : Nat} (h1 : xs.length = n) (h2 : ys.length = n) (h3 : us.length = n) : ∀ zs ∈ [xs, ys, us], zs.length = n := fun zs hz => by
  rcases List.mem_cons.mp hz with e | hz
  · rw [e]; exact h1
  · exact lens2 h2 h3 zs hz
theorem sqT {K : PySem.W.Frag} {H : Hp} {a : Addr} {xs : List V} (h : H a = some (.tup xs)) : CZ.SqK K H (true, a) xs := SqT.of h
theorem sqL {K : PySem.W.Frag} {H : Hp} {a : Addr} {xs : List V} (h : H a = some (.lst xs)) : CZ.SqK K H (false, a) xs := SqL.of h
section
variable {J : It} {n : Nat} {G : Hp → Prop} {Y : Nat → Hp → V → Hp → Prop}
/-- a comprehension of two loops: the outer -/
theorem lc2_it (w : Walk J n G Y) {g g1 : TG} {tt tt1 : TT} {te : TE} {wi1 : TI} {vs vs1 : List Nat} {σ : L2.St} {H1 : Hp} {D : Addr} {Qd : Hp → Prop} (Pv : Nat → Hp → Prop) (h0 : Pv 0 (upd H1 D (.lst []))) (hG : ∀ i H, i ≤ n → Pv i H → G H)
    (hs : ∀ i x H H2, i < n → Pv i H → Y i H x H2 → g x (wipe σ vs) H2 fun σ2 H2 => wipe σ2 vs = wipe σ vs ∧ tt σ2 H2 fun b H3 =>
      if b = true then wi1 σ2 H3 fun J1 H4 => ∃ W1 : Nat → Nat → Hp → Prop, (∃ m, W1 0 m H4) ∧ ∀ j k H, W1 j k H →
        (J1.stop j H ∧ Pv (i + 1) H) ∨ (J1.go j H ∧ ∃ Nx1 : Hp → Prop, (∀ H2, Nx1 H2 → ∃ k2, k2 < k ∧ W1 (j + 1) k2 H2) ∧ ∀ x H2, J1.yld j H x H2 → g1 x (wipe σ2 vs1) H2 fun σ3 H5 => wipe σ3 vs1 = wipe σ2 vs1 ∧ tt1 σ3 H5 fun b H6 =>
          if b = true then te σ3 H6 fun y H7 => ∃ acc, H7 D = some (.lst acc) ∧ acc.length < sizeLine ∧ Nx1 (upd H7 D (.lst (acc ++ [y]))) else Nx1 H6)
      else Pv (i + 1) H3) (hd : ∀ H, Pv n H → Qd H) :
    ∃ W : Nat → Nat → Hp → Prop, (∃ m, W 0 m (upd H1 D (.lst []))) ∧ ∀ i m H, W i m H →
      (J.stop i H ∧ Qd H) ∨ (J.go i H ∧ ∃ Nx : Hp → Prop, (∀ H2, Nx H2 → ∃ m2, m2 < m ∧ W (i + 1) m2 H2) ∧ ∀ x H2, J.yld i H x H2 → g x (wipe σ vs) H2 fun σ2 H2 => wipe σ2 vs = wipe σ vs ∧ tt σ2 H2 fun b H3 =>
        if b = true then wi1 σ2 H3 fun J1 H4 => ∃ W1 : Nat → Nat → Hp → Prop, (∃ m, W1 0 m H4) ∧ ∀ j k H, W1 j k H →
          (J1.stop j H ∧ Nx H) ∨ (J1.go j H ∧ ∃ Nx1 : Hp → Prop, (∀ H2, Nx1 H2 → ∃ k2, k2 < k ∧ W1 (j + 1) k2 H2) ∧ ∀ x H2, J1.yld j H x H2 → g1 x (wipe σ2 vs1) H2 fun σ3 H5 => wipe σ3 vs1 = wipe σ2 vs1 ∧ tt1 σ3 H5 fun b H6 =>
            if b = true then te σ3 H6 fun y H7 => ∃ acc, H7 D = some (.lst acc) ∧ acc.length < sizeLine ∧ Nx1 (upd H7 D (.lst (acc ++ [y]))) else Nx1 H6)
        else Nx H3) := by
  refine ⟨fun i m H => m = n - i ∧ i ≤ n ∧ Pv i H, ⟨n, by simp, Nat.zero_le _, h0⟩, ?_⟩
  rintro i m H ⟨rfl, hi, p⟩
  have q := hG i H hi p
  by_cases hlt : i < n
  · refine .inr ⟨w.goes i H hlt q, Pv (i + 1), fun H2 p2 => ⟨n - (i + 1), by omega, rfl, hlt, p2⟩, fun x H2 y => hs i x H H2 hlt p (w.yields i H x H2 hlt q y)⟩
  · have e : i = n := by omega
    subst e
    exact .inl ⟨w.stops H q, hd H p⟩
/-- .. the inner -/
theorem in_it (w : Walk J n G Y) {g1 : TG} {tt1 : TT} {te : TE} {vs1 : List Nat} {σ2 : L2.St} {H4 : Hp} {D : Addr} {Nx : Hp → Prop} (Pw : Nat → Hp → Prop) (h0 : Pw 0 H4) (hG : ∀ i H, i ≤ n → Pw i H → G H)
    (hs : ∀ j x H H2, j < n → Pw j H → Y j H x H2 → g1 x (wipe σ2 vs1) H2 fun σ3 H5 => wipe σ3 vs1 = wipe σ2 vs1 ∧ tt1 σ3 H5 fun b H6 =>
      if b = true then te σ3 H6 fun y H7 => ∃ acc, H7 D = some (.lst acc) ∧ acc.length < sizeLine ∧ Pw (j + 1) (upd H7 D (.lst (acc ++ [y]))) else Pw (j + 1) H6) (hd : ∀ H, Pw n H → Nx H) :
    ∃ W1 : Nat → Nat → Hp → Prop, (∃ m, W1 0 m H4) ∧ ∀ j k H, W1 j k H →
      (J.stop j H ∧ Nx H) ∨ (J.go j H ∧ ∃ Nx1 : Hp → Prop, (∀ H2, Nx1 H2 → ∃ k2, k2 < k ∧ W1 (j + 1) k2 H2) ∧ ∀ x H2, J.yld j H x H2 → g1 x (wipe σ2 vs1) H2 fun σ3 H5 => wipe σ3 vs1 = wipe σ2 vs1 ∧ tt1 σ3 H5 fun b H6 =>
        if b = true then te σ3 H6 fun y H7 => ∃ acc, H7 D = some (.lst acc) ∧ acc.length < sizeLine ∧ Nx1 (upd H7 D (.lst (acc ++ [y]))) else Nx1 H6) := by
  refine ⟨fun i m H => m = n - i ∧ i ≤ n ∧ Pw i H, ⟨n, by simp, Nat.zero_le _, h0⟩, ?_⟩
  rintro i m H ⟨rfl, hi, p⟩
  have q := hG i H hi p
  by_cases hlt : i < n
  · refine .inr ⟨w.goes i H hlt q, Pw (i + 1), fun H2 p2 => ⟨n - (i + 1), by omega, rfl, hlt, p2⟩, fun x H2 y => hs i x H H2 hlt p (w.yields i H x H2 hlt q y)⟩
  · have e : i = n := by omega
    subst e
    exact .inl ⟨w.stops H q, hd H p⟩
end
/-- refs of tuples of ints -/
def RowsR (H : Hp) (xs : List V) (hss : List (List Int)) : Prop := Paired (fun x hs => ∃ r, x = V.ref r ∧ H r = some (.tup (hs.map V.int))) xs hss
theorem RowsR.mono {H H2 : Hp} (e : Ex H H2) : ∀ {xs : List V} {hss : List (List Int)}, RowsR H xs hss → RowsR H2 xs hss
  | _, _, .nil => .nil
  | _, _, .cons ⟨r, h1, h2⟩ t => .cons ⟨r, h1, e _ _ h2⟩ (RowsR.mono e t)
theorem RowsR.snoc {H : Hp} {r : Addr} {hs : List Int} (h : H r = some (.tup (hs.map V.int))) : ∀ {xs : List V} {hss : List (List Int)}, RowsR H xs hss → RowsR H (xs ++ [.ref r]) (hss ++ [hs])
  | _, _, .nil => .cons ⟨r, rfl, h⟩ .nil
  | _, _, .cons q t => .cons q (RowsR.snoc h t)
theorem RowsR.app {H : Hp} {ys : List V} {kss : List (List Int)} (h : RowsR H ys kss) : ∀ {xs : List V} {hss : List (List Int)}, RowsR H xs hss → RowsR H (xs ++ ys) (hss ++ kss)
  | _, _, .nil => h
  | _, _, .cons q t => .cons q (RowsR.app h t)
theorem RowsR.len {H : Hp} : ∀ {xs : List V} {hss : List (List Int)}, RowsR H xs hss → xs.length = hss.length
  | _, _, .nil => rfl
  | _, _, .cons _ t => by rw [List.length_cons, List.length_cons, RowsR.len t]
theorem RowsR.get {H : Hp} : ∀ {xs : List V} {hss : List (List Int)} {i : Nat} {x : V}, RowsR H xs hss → xs[i]? = some x → ∃ hs r, hss[i]? = some hs ∧ x = V.ref r ∧ H r = some (.tup (hs.map V.int))
  | _, _, _, _, .nil, h => by simp at h
  | _, _, 0, _, .cons ⟨r, e, q⟩ _, h => by
    simp only [List.length_cons, Nat.zero_lt_succ, List.getElem?_eq_getElem, List.getElem_cons_zero, Option.some.injEq] at h
    subst h
    exact ⟨_, r, rfl, e, q⟩
  | _, _, i + 1, _, .cons _ t, h => by
    rw [List.getElem?_cons_succ] at h ⊢
    exact RowsR.get t h
theorem RowsR.dp {K : PySem.W.Frag} {H : Hp} : ∀ {xs : List V} {hss : List (List Int)}, RowsR H xs hss → DpAll K H xs (hss.map iT)
  | _, _, .nil => .nil
  | _, _, .cons ⟨r, e, q⟩ t => by
    subst e
    exact .cons (dp_ints q) (RowsR.dp t)
/-- a list of tuples of ints -/
def RowsAt (H : Hp) (D : Addr) (hss : List (List Int)) : Prop := ∃ xs, H D = some (.lst xs) ∧ RowsR H xs hss
theorem RowsAt.mono {H H2 : Hp} {D : Addr} {hss : List (List Int)} (e : Ex H H2) (h : RowsAt H D hss) : RowsAt H2 D hss := by
  obtain ⟨xs, h1, h2⟩ := h
  exact ⟨xs, e _ _ h1, h2.mono e⟩
theorem RowsAt.dp {K : PySem.W.Frag} {H : Hp} {D : Addr} {hss : List (List Int)} (h : RowsAt H D hss) : Dp K H (.ref D) (.list (hss.map iT)) := by
  obtain ⟨xs, h1, h2⟩ := h
  exact .lst (SqL.of h1) h2.dp
theorem sh_rows {n : Nat} (hss : List (List Int)) : Sh (n + 2) (.list (hss.map iT)) := sh_list fun d hd => by
  obtain ⟨hs, _, rfl⟩ := List.mem_map.mp hd
  exact sh_ints hs
theorem eqvAll_rows : ∀ ns ms : List (List Int), PyData.eqvAll (ns.map iT) (ms.map iT) = decide (ns = ms)
  | [], [] => by simp [PyData.eqvAll]
  | [], _ :: _ => by simp [PyData.eqvAll]
  | _ :: _, [] => by simp [PyData.eqvAll]
  | n :: ns, m :: ms => by
    have ih := eqvAll_rows ns ms
    simp only [List.map_cons, PyData.eqvAll, eqv_ints, ih]
    by_cases h : n = m
    · subst h
      simp
    · simp [h]
theorem eqv_rows (ns ms : List (List Int)) : PyData.eqv (.list (ns.map iT)) (.list (ms.map iT)) = decide (ns = ms) := by
  simp only [PyData.eqv]
  exact eqvAll_rows ns ms
theorem RowsR.upd {H : Hp} {D : Addr} {acc : List V} {o : HO} (hD : H D = some (.lst acc)) : ∀ {xs : List V} {hss : List (List Int)}, RowsR H xs hss → RowsR (upd H D o) xs hss
  | _, _, .nil => .nil
  | _, _, .cons ⟨r, h1, h2⟩ t => .cons ⟨r, h1, by rw [upd_ne (ne_of h2 hD (by intro z; cases z))]; exact h2⟩ (RowsR.upd hD t)
theorem rows_push {H : Hp} {D u : Addr} {hss : List (List Int)} {ks : List Int} (h : RowsAt H D hss) (hu : H u = some (.tup (ks.map V.int))) : ∃ acc, H D = some (.lst acc) ∧ acc.length = hss.length ∧ RowsAt (upd H D (.lst (acc ++ [.ref u]))) D (hss ++ [ks]) := by
  obtain ⟨xs, h1, h2⟩ := h
  refine ⟨xs, h1, h2.len, _, upd_same, ?_⟩
  exact RowsR.snoc (by rw [upd_ne (ne_of hu h1 (by intro z; cases z))]; exact hu) (h2.upd h1)
theorem ex_upd {H H2 : Hp} {D : Addr} {o : HO} (e : Ex H H2) (hD : H D = none) : Ex H (upd H2 D o) := fun c u z => by
  rw [upd_ne (ne_of_none z hD)]
  exact e c u z
theorem ext {H H1 H2 : Hp} (a : Ex H H1) (b : Ex H1 H2) : Ex H H2 := fun c o z => b c o (a c o z)

/-! ### tuple * int, from 1 on -/
theorem u65 {k : Nat} {A : Around} (r : Room k A) : A.units + 65 < cLine := by have := r.un; omega
theorem tuple_mul1 (l : Addr) (items : Array Value) (n : Nat) (dd : Option Addr) (sl : Array (Option Value)) (x : Int) (u : Tok) (c0 : (decide (x < -(2 ^ 63)) || decide (x ≥ 2 ^ 63)) = false) (c1 : (items.isEmpty || x == 1) = true) :
    Meets (Builtin.«tuple.__mul__» ⟨[.ref l, .int x u], []⟩) (fun _ R s => s.heap.get? l = some { cls := .type "tuple", dict := dd, data := .seq items n, slots := sl } ∧ R (.ok (.ret (Value.ref l))) s) :=
  .of_wp fun prog w A R s h => by
    obtain ⟨hp, g, d, tk, os⟩ := s
    obtain ⟨hl, h⟩ := h
    have f1 := AutoSeq1.idx_int
    wp_walk using wpAny_loadPart' hl
    repeat (first
      | (refine wpAny_ite_false (decide_eq_false (by rw [c0]; exact Bool.false_ne_true)) ?_; wp_walk using wpAny_loadPart' hl)
      | (refine wpAny_ite_true (decide_eq_true c1) ?_; wp_walk using wpAny_loadPart' hl))
    exact ⟨_, rfl, h⟩
def rRepA (K : PySem.W.Frag) : R2 := fun x y H Q => ∃ l k xs, x = .ref l ∧ y = .int k ∧ SqT K H l xs ∧ xs ≠ [] ∧ 1 ≤ k ∧ k ≤ 1000 ∧ xs.length ≤ 1000 ∧ (k = 1 → Q (.ref l) H) ∧ ∀ p, H p = none → Q (.ref p) (upd H p (.tup (List.replicate k.toNat xs).flatten))
theorem op_repA {X : Cx} : OpR X (binaryOp .Mult) (rRepA X.K) := by
  intro pins s σ H x y v u Q I rx ry h
  obtain ⟨l, k, xs, ex, ey, hT, hne, h1, h2, hz, q1, q⟩ := h
  by_cases hk : k = 1
  · subst ex ey hk
    cases rx
    obtain ⟨t, rfl⟩ := ry
    obtain ⟨its, r, ⟨⟨cls, dd, data, sl⟩, ho, hc, n, hd⟩, hs⟩ := I.tuple hT
    simp only at hc hd
    subst hc hd
    refine wpAny_binaryOp_repeat_ref (T := "tuple") (U := "int") (by decide) ⟨_, ho, rfl⟩ (fun s2 => typeIs_int s2 1 t) noFill_tuple_mul PySem.F.fills_int_mul PySem.F.slot_int_rmul repeat_tuple PySem.F.slot_int_index.lookup
      (call_meets PySem.F.slot_int_rmul (typeIs_int s 1 t) PySem.F.entry_int_rmul (PySem.F.args_int_rmul_2 _ _) (int_rmul_tuple 1 t l its.toArray n dd sl)
        ⟨ho, rfl, ⟨_, ho, rfl⟩, call_meets PySem.F.slot_tuple_mul ⟨_, ho, rfl⟩ PySem.F.entry_tuple_mul (PySem.F.args_tuple_mul_2 _ _) (tuple_mul1 l its.toArray n dd sl 1 t (by decide) (by simp)) ⟨ho, ?_⟩⟩)
    exact ⟨.ref l, H, I, rfl, q1 rfl⟩
  · exact op_repT pins s σ H x y v u Q I rx ry ⟨l, k, xs, ex, ey, hT, hne, by omega, h2, hz, q⟩
/-- (x,) * k -/
theorem rep_one (x : V) (k : Nat) : (List.replicate k [x]).flatten = List.replicate k x := by
  induction k with
  | zero => rfl
  | succ k ih => rw [List.replicate_succ, List.flatten_cons, ih, List.replicate_succ]; rfl
theorem rep_ints {K : PySem.W.Frag} {H : Hp} {Q : VK} {u : Addr} {x k : Int} (hu : H u = some (.tup [.int x])) (h1 : 1 ≤ k) (h2 : k ≤ 1000) (h : ∀ q H2, Ex H H2 → H2 q = some (.tup ((List.replicate k.toNat x).map V.int)) → Q (.ref q) H2) : rRepA K (.ref u) (.int k) H Q := by
  refine ⟨u, k, [.int x], rfl, rfl, SqT.of hu, (fun z => nomatch z), h1, h2, (by show 1 ≤ 1000; decide), fun e => ?_, fun p hp => ?_⟩
  · subst e
    exact h u H exr hu
  · refine h p _ (exn hp) ?_
    rw [upd_same, rep_one, List.map_replicate]
theorem ne_same {a b : List Int} (h : a = b) : (!PyData.eqv (iT a) (iT b)) = false := by rw [h]; exact eqv_same (sh_ints b)
/-- a comprehension over a tuple of ints, by a value each -/
theorem row_in {hss : List (List Int)} {ps : List Int} (h : ps ∈ hss) : ((hss.map iT).any fun z => PyData.eqv z (iT ps)) = true := by
  rw [List.any_eq_true]
  exact ⟨iT ps, List.mem_map.mpr ⟨ps, h, rfl⟩, by rw [eqv_ints]; simp⟩
/-- a list of ints -/
abbrev iL (ns : List Int) : PyData := .list (ns.map PyData.int)
theorem sh_ilist {n : Nat} (ns : List Int) : Sh (n + 1) (iL ns) := sh_list fun d hd => by
  obtain ⟨i, _, rfl⟩ := List.mem_map.mp hd
  exact sh_int i
theorem dp_ilist {K : PySem.W.Frag} {H : Hp} {a : Addr} {ns : List Int} (h : H a = some (.lst (ns.map V.int))) : Dp K H (.ref a) (iL ns) := .lst (SqL.of h) (dpall_ints ns)
theorem eqv_ilist (ns ms : List Int) : PyData.eqv (iL ns) (iL ms) = decide (ns = ms) := by
  simp only [PyData.eqv]
  exact eqvAll_ints ns ms
theorem dec_bl {a b : Bool} (h : a = b) : (!decide (V.bl a = V.bl b)) = false := by rw [h]; simp
theorem emod_eq_iff {a b n : Int} : a % n = b % n ↔ n ∣ a - b := by
  rw [Int.emod_eq_emod_iff_emod_sub_eq_zero, Int.dvd_iff_emod_eq_zero]
/-- behind an if that changes names alone -/
theorem ifs_cutS {c : TT} {t u : TS} {D : Ends} {σ : L2.St} {H : Hp} (R : L2.St → Prop) (hR : ∀ σ2, R σ2 → D.nx σ2 H) (h : ∀ N : L2.St → Hp → Prop, (∀ σ2, R σ2 → N σ2 H) → tIfS c t u { D with nx := N } σ H) : tIfS c t u D σ H :=
  h D.nx hR

/-- a comprehension that lengthens a row by each of ks -/
theorem lc_rows {J : It} {n : Nat} {G : Hp → Prop} {Y : Nat → Hp → V → Hp → Prop} (w : Walk J n G Y) {g : TG} {te : TE} {vs : List Nat} {σ : L2.St} {H1 : Hp} {D : Addr} {Qd : Hp → Prop} (row ks : List Int) (hn : ks.length = n) (hl : n ≤ 10000000) (hD : H1 D = none)
    (hG : ∀ H, Ex H1 H → G H)
    (hs : ∀ i x H H2 (R : VK), i < n → Ex H1 H → Y i H x H2 → (∀ k v H5, Ex H H5 → ks[i]? = some k → H5 v = some (.tup ((row ++ [k]).map V.int)) → R (.ref v) H5) → g x (wipe σ vs) H2 fun σ2 H3 => wipe σ2 vs = wipe σ vs ∧ te σ2 H3 R)
    (hg : ∀ x σ2 H2 (R R2 : L2.St → Hp → Prop), (∀ σ3 H3, R σ3 H3 → R2 σ3 H3) → g x σ2 H2 R → g x σ2 H2 R2)
    (hd : ∀ H, Ex H1 H → RowsAt H D (ks.map fun k => row ++ [k]) → Qd H) :
    ∃ W : Nat → Nat → Hp → Prop, (∃ m, W 0 m (upd H1 D (.lst []))) ∧ ∀ i m H, W i m H →
      (J.stop i H ∧ Qd H) ∨ (J.go i H ∧ ∃ Nx : Hp → Prop, (∀ H2, Nx H2 → ∃ m2, m2 < m ∧ W (i + 1) m2 H2) ∧ ∀ x H2, J.yld i H x H2 → g x (wipe σ vs) H2 fun σ2 H3 => wipe σ2 vs = wipe σ vs ∧ tYes σ2 H3 fun b H4 =>
        if b = true then te σ2 H4 fun y H5 => ∃ acc, H5 D = some (.lst acc) ∧ acc.length < sizeLine ∧ Nx (upd H5 D (.lst (acc ++ [y]))) else Nx H4) := by
  refine lc_it w (fun i H => Ex H1 H ∧ RowsAt H D ((ks.take i).map fun k => row ++ [k])) ⟨exn hD, _, upd_same, .nil⟩ (fun i H _ p => hG H p.1) (fun i x H H2 hi p y => ?_) (fun H p => hd H p.1 (by have := p.2; rwa [List.take_of_length_le (by rw [hn]; exact Nat.le_refl _)] at this))
  refine hg _ _ _ _ _ (fun σ3 H3 q => ⟨q.1, q.2⟩) (hs i x H H2 (fun y H5 => ∃ acc, H5 D = some (.lst acc) ∧ acc.length < sizeLine ∧ Ex H1 (upd H5 D (.lst (acc ++ [y]))) ∧ RowsAt (upd H5 D (.lst (acc ++ [y]))) D ((ks.take (i + 1)).map fun k => row ++ [k])) hi p.1 y fun k v H5 e hk hv => ?_)
  obtain ⟨acc, h1, h2, h3⟩ := rows_push (p.2.mono e) hv
  refine ⟨acc, h1, ?_, ex_upd (ext p.1 e) hD, ?_⟩
  · rw [h2, List.length_map, List.length_take]
    exact Nat.lt_of_le_of_lt (Nat.le_trans (Nat.min_le_right _ _) (by rw [hn]; exact hl)) (by decide)
  · rw [take_more hk, List.map_append]
    exact h3
/-- row + (k,) -/
theorem cat_row {K : PySem.W.Frag} {H : Hp} {Q : VK} {r u : Addr} {row : List Int} {k : Int} (hr : H r = some (.tup (row.map V.int))) (hu : H u = some (.tup [.int k])) (hl : row.length ≤ 1000) (h : ∀ v H5, Ex H H5 → H5 v = some (.tup ((row ++ [k]).map V.int)) → Q (.ref v) H5) : rCatA K (.ref r) (.ref u) H Q := by
  refine ⟨r, u, row.map V.int, [.int k], rfl, rfl, SqT.of hr, SqT.of hu, ?_, fun z => ?_, fun _ z => (nomatch z), fun _ _ v hv => ?_⟩
  · rw [List.length_map]
    exact Nat.le_trans (show _ + 1 ≤ 1001 by omega) (by decide)
  · have : row = [] := List.map_eq_nil_iff.mp z
    subst this
    exact h u H exr hu
  · refine h v _ (exn hv) ?_
    rw [upd_same, List.map_append]
    rfl
theorem rows_ext {H : Hp} {D E : Addr} {hss kss : List (List Int)} (h1 : RowsAt H D hss) (h2 : RowsAt H E kss) (ne : D ≠ E) : ∃ xs zs, H D = some (.lst xs) ∧ H E = some (.lst zs) ∧ xs.length = hss.length ∧ zs.length = kss.length ∧ RowsAt (upd H D (.lst (xs ++ zs))) D (hss ++ kss) := by
  obtain ⟨xs, a1, a2⟩ := h1
  obtain ⟨zs, b1, b2⟩ := h2
  exact ⟨xs, zs, a1, b1, a2.len, b2.len, _, upd_same, RowsR.app (b2.upd a1) (a2.upd a1)⟩

theorem eqT {i j : Int} (h : decide (V.int i = V.int j) = true) : i = j := V.int.inj (of_decide_eq_true h)
theorem eqF {i j : Int} (h : ¬decide (V.int i = V.int j) = true) : i ≠ j := fun z => h (decide_eq_true (by rw [z]))
/-- behind an if -/
theorem ifs_cutG {c : TT} {t u : TS} {D : Ends} {σ : L2.St} {H : Hp} (R : L2.St → Hp → Prop) (hR : ∀ σ2 H2, R σ2 H2 → D.nx σ2 H2) (h : ∀ N : L2.St → Hp → Prop, (∀ σ2 H2, R σ2 H2 → N σ2 H2) → tIfS c t u { D with nx := N } σ H) : tIfS c t u D σ H :=
  h D.nx hR
theorem exG {H H4 : Hp} {p : Addr} {o : HO} (h : upd H p o = H4) (n : H p = none) : Ex H H4 := h ▸ exn n
theorem atG {H H4 : Hp} {p : Addr} {o : HO} (h : upd H p o = H4) : H4 p = some o := h ▸ upd_same
theorem slen {n : Nat} (h : Nat.ble n 1000 = true) : n ≤ sizeLine := Nat.le_trans (Nat.le_of_ble_eq_true h) (by decide)
/-- a comprehension with a test: what passes, by f -/
theorem lc_filt {α : Type} {J : It} {n : Nat} {G : Hp → Prop} {Y : Nat → Hp → V → Hp → Prop} (w : Walk J n G Y) {g : TG} {tt : TT} {te : TE} {vs : List Nat} {σ : L2.St} {H1 : Hp} {D : Addr} {Qd : Hp → Prop} (xs : List α) (c : α → Bool) (f : α → V) (hn : xs.length = n) (hl : n ≤ 10000000) (hD : H1 D = none)
    (hG : ∀ H, Ex H1 H → G H)
    (hs : ∀ i x a H H2 (R : VK) (S : Hp → Prop), xs[i]? = some a → Ex H1 H → Y i H x H2 → (∀ y H5, Ex H H5 → c a = true → y = f a → R y H5) → (∀ H4, Ex H H4 → c a = false → S H4) → g x (wipe σ vs) H2 fun σ2 H3 => wipe σ2 vs = wipe σ vs ∧ tt σ2 H3 fun b H4 => if b = true then te σ2 H4 R else S H4)
    (hd : ∀ H, Ex H1 H → H D = some (.lst ((xs.filter c).map f)) → Qd H) :
    ∃ W : Nat → Nat → Hp → Prop, (∃ m, W 0 m (upd H1 D (.lst []))) ∧ ∀ i m H, W i m H →
      (J.stop i H ∧ Qd H) ∨ (J.go i H ∧ ∃ Nx : Hp → Prop, (∀ H2, Nx H2 → ∃ m2, m2 < m ∧ W (i + 1) m2 H2) ∧ ∀ x H2, J.yld i H x H2 → g x (wipe σ vs) H2 fun σ2 H3 => wipe σ2 vs = wipe σ vs ∧ tt σ2 H3 fun b H4 =>
        if b = true then te σ2 H4 fun y H5 => ∃ acc, H5 D = some (.lst acc) ∧ acc.length < sizeLine ∧ Nx (upd H5 D (.lst (acc ++ [y]))) else Nx H4) := by
  refine lc_out w (fun i => ((xs.take i).filter c).map f) (by simp) hD (fun i hi => ?_) hG (fun i x H H2 Nx hi e hDi y kA kN => ?_) (fun H e h => hd H e ?_)
  · rw [List.length_map]
    refine Nat.lt_of_le_of_lt (Nat.le_trans (List.length_filter_le _ _) (Nat.le_trans (by rw [List.length_take]; exact Nat.min_le_right _ _) (by rw [hn]; exact hl))) (by decide)
  · obtain ⟨a, ha⟩ : ∃ a, xs[i]? = some a := ⟨xs[i]'(by omega), List.getElem?_eq_getElem (by omega)⟩
    refine hs i x a H H2 _ _ ha e y (fun y2 H5 e5 hc hy => kA y2 H5 e5 ?_) (fun H4 e4 hc => kN H4 e4 ?_)
    · rw [take_more ha, List.filter_append, List.map_append, hy]
      simp [hc]
    · rw [take_more ha, List.filter_append, List.map_append]
      simp [hc]
  · rw [h, List.take_of_length_le (by rw [hn]; exact Nat.le_refl _)]
/-- rows that pass a test -/
theorem RowsR.filt {H : Hp} (c : List Int → Bool) : ∀ {xs : List V} {hss : List (List Int)}, RowsR H xs hss → RowsR H (((xs.zip hss).filter fun z => c z.2).map fun z => z.1) (hss.filter c)
  | _, _, .nil => .nil
  | _, _, .cons (a := x) (b := hs) q t => by
    have ih := RowsR.filt c t
    rw [List.zip_cons_cons]
    cases e : c hs with
    | false =>
      rw [List.filter_cons_of_neg (by simp [e]), List.filter_cons_of_neg (by simp [e])]
      exact ih
    | true =>
      rw [List.filter_cons_of_pos (by simp [e]), List.filter_cons_of_pos (by simp [e])]
      exact .cons q ih
theorem zip_at2 {α β : Type} {l : List α} {m : List β} {i : Nat} {z : α × β} (h : (l.zip m)[i]? = some z) : l[i]? = some z.1 ∧ m[i]? = some z.2 := by
  rw [List.getElem?_zip_eq_some] at h
  exact h
/-- tuple(s), s a list or a tuple -/
theorem tup_of {K : PySem.W.Frag} {H : Hp} {q : Bool × Addr} {xs : List V} {Q : VK} (h : SqH H q xs) (k : ∀ t H2, Ex H H2 → H2 t = some (.tup xs) → Q (.ref t) H2) : (SqL K H q.2 xs ∧ ∀ p, H p = none → Q (.ref p) (upd H p (.tup xs))) ∨ SqT K H q.2 xs ∧ Q (.ref q.2) H := by
  obtain ⟨b, a⟩ := q
  cases b
  · exact .inl ⟨SqL.of (show H a = some (.lst xs) from h), fun p hp => k p _ (exn hp) upd_same⟩
  · exact .inr ⟨SqT.of (show H a = some (.tup xs) from h), k a H exr h⟩
def rTupQ : List V → Hp → VK → Prop := fun vs H Q => ∃ (q : Bool × Addr) (xs : List V), vs = [.ref q.2] ∧ SqH H q xs ∧ ∀ t H2, Ex H H2 → H2 t = some (.tup xs) → Q (.ref t) H2
theorem call_tuple_q {X : Cx} : CallR X (.type "tuple") rTupQ := by
  intro pins s σ H vs us Q I r h
  obtain ⟨q, xs, rfl, hq, k⟩ := h
  exact call_tuple_of pins s σ H _ us Q I r ⟨q.2, xs, rfl, tup_of hq k⟩
theorem SqH.uniq {H : Hp} {q : Bool × Addr} {xs ys : List V} (h1 : SqH H q xs) (h2 : SqH H q ys) : xs = ys := by
  obtain ⟨b, a⟩ := q
  cases b
  · have e : some (HO.lst xs) = some (HO.lst ys) := (show H a = some (.lst xs) from h1).symm.trans (show H a = some (.lst ys) from h2)
    injection e with e
    injection e
  · have e : some (HO.tup xs) = some (HO.tup ys) := (show H a = some (.tup xs) from h1).symm.trans (show H a = some (.tup ys) from h2)
    injection e with e
    injection e
theorem RowsR.monoT {H H2 : Hp} (e : ∀ c xs, H c = some (.tup xs) → H2 c = some (.tup xs)) : ∀ {xs : List V} {hss : List (List Int)}, RowsR H xs hss → RowsR H2 xs hss
  | _, _, .nil => .nil
  | _, _, .cons ⟨r, h1, h2⟩ t => .cons ⟨r, h1, e _ _ h2⟩ (RowsR.monoT e t)

-- exceptions
/-- an error of the class at S is what «except S» names -/
theorem exm_self {K : PySem.W.Frag} {S : Addr} (h1 : PySem.W.subIn K (.ref S) (.type "BaseException") = some true) (h2 : PySem.W.isClsIn K S = true) (h3 : PySem.W.typeIn K (.ref S) = some (.type "type")) (h4 : PySem.W.subIn K (.ref S) (.ref S) = some true) :
    PySem.W.exmOne K (.ref S) (.ref S) = some true := by
  have e1 : (PySem.W.subIn K (.ref S) (.type "BaseException") == some true) = true := by rw [h1] <;> rfl
  have e2 : ((PySem.W.clsIn K S).isSome && PySem.W.typeIn K (.ref S) == some (.type "type")) = true := by
    have h2' : (PySem.W.clsIn K S).isSome = true := h2
    rw [h2', h3] <;> rfl
  show (if (PySem.W.subIn K (.ref S) (.type "BaseException") == some true) = true then (if ((PySem.W.clsIn K S).isSome && PySem.W.typeIn K (.ref S) == some (.type "type")) = true then PySem.W.subIn K (.ref S) (.ref S) else none) else none) = some true
  rw [if_pos e1, if_pos e2]
  exact h4
/-- what the first clause 'except x as n' wishes of an exception of the body that it takes: slot i is n's -/
def wAs1 (K : PySem.W.Frag) (c : Value) (i : Nat) (ts : Addr → Value → Option Addr → TS) (D : Ends) : WX := fun cls d σ H =>
  PySem.W.exmOne K cls c = some true ∧ ∀ a, H a = none → ts a cls d { nx := fun σ' H' => D.nx (σ'.set i none) H', rt := D.rt, bk := fun σ' H' => D.bk (σ'.set i none) H', ct := fun σ' H' => D.ct (σ'.set i none) H' } (σ.set i (some (.ref a))) H
/-- try, where the first clause takes what the body raises; what the other clauses are is all one -/
theorem ps_try_as1 {X : Cx} {x n : Str} {c : Value} {i : Nat} {body suite : List Stmt} {b₀ : Stmt} {np pos pos' : Pos} {hds : List ExceptHandler} {tb : WX → TS} {ts : Addr → Value → Option Addr → TS} (hs : X.stack = X.env :: X.outer) (hf : X.env.frame = some X.env.locals) (hN : X.N.Nodup) (hi : X.N[i]? = some n) (hln : X.env.kindOf n = some .local) (hc : Names X x c)
    (hb : ∀ (W : WX) (pn : List (Addr × Obj)) (xe : Value → Shared → Prop), Takes (X.tr pn xe) W → PassesOwn (model X.prog X.w) X.A X.env xe → PSs (X.tr pn xe) body (tb W))
    (hsu : ∀ (a : Addr) (oe : Obj) (cls : Value) (d : Option Addr) (pn : List (Addr × Obj)), Zc cls d oe → (∃ vs, oe.data = .fields vs) → PSs (X.suite a ((a, oe) :: pn)) (b₀ :: suite) (ts a cls d)) :
    PS X (.Try body (.ExceptHandler (some (.Name x np)) (some n) (b₀ :: suite) pos' :: hds) [] [] pos) (fun D σ H => tb (wAs1 X.K c i ts D) D σ H) := by
  refine ⟨fun pins s σ H D I h => ?_⟩
  have ok := I.ok
  have hfr : X.A.frames = some (X.env :: X.outer) := by rw [ok.frames, hs]
  have hloc : Loc X.env.scope n := .inl hln
  refine wpAny_Try_except ?_
  refine wpAny_mono ((hb (wAs1 X.K c i ts D) (X.pn ++ pins) (fun e s₁ => wpAny (model X.prog X.w) X.A (noteFrame e X.env) (fun _ s₂ => wpAny (model X.prog X.w) X.A (setFlight e none) (fun _ s₃ =>
    wpAny (model X.prog X.w) X.A (handleBy e X.env (.ExceptHandler (some (.Name x np)) (some n) (b₀ :: suite) pos' :: hds)) (SP X pins D) X.xe s₃) X.xe s₂) X.xe s₁) (fun u s' xx => ?_) PassesOwn.looking).run [] s σ H D (I.toTry _) h) (fun f s1 hsp => ?_) (fun e s1 he => he)
  · obtain ⟨a, B, sI, pins', σ', H', cls, d, rfl, J', nb, up, sky, na, os, ag, hb1, hyes⟩ := xx
    have J : Inv X pins σ' H' sI := J'.ofTry ok
    have sky' : Sky B (X.env :: X.outer) a (Zc cls d) X.env.locals s'.heap := by rw [← hs]; exact sky
    show wpAny (model X.prog X.w) X.A (noteFrame (.ref a) X.env) _ _ _
    refine Sky.land Zc.steady hfr hf sky' fun h3 fl3 up3 => ?_
    have J3 : Inv X pins σ' H' { s' with heap := h3 } := J.landed nb fl3.1 (up.trans up3) os ag
    obtain ⟨oe3, vs3, he3, hz3, hd3⟩ := fl3.there
    have notFr : ∀ {h : Heap} {o : Obj} {vs : Array Value}, h.FunFrames B (X.env :: X.outer) → h.get? a = some o → o.data = .fields vs → a ∉ frs (X.env :: X.outer) := fun {h o vs} ff e dd hm => by
      obtain ⟨_, o', e', hnf⟩ := ff.mem hm
      rw [e] at e'; cases e'
      exact hnf _ dd
    have nfr := notFr fl3.2.2.1 he3 hd3
    have nL : a ≠ X.env.locals := fun z => nfr (List.mem_filterMap.mpr ⟨X.env, List.mem_cons_self, by rw [hf, z]⟩)
    have nF : a ∉ X.fs := fun hm => by
      obtain ⟨e, he, q⟩ := List.mem_filterMap.mp hm
      exact nfr (List.mem_filterMap.mpr ⟨e, List.mem_cons_of_mem _ he, q⟩)
    have S3 := J3.suite he3 hd3 na nL nF
    refine wpAny_handleBy_cons (codeAny_handlers_test ?_) (by intro q; cases q)
    have LT : PySem.W.Looks (model X.prog X.w) h3 (typeOf (.ref a)) cls := fun A Q E s k q => wpAny_typeOf_ref (k _ _ he3) (by rw [hz3.1]; exact q)
    have LM := PySem.W.exm_one (M := model X.prog X.w) (J3.kIn) LT hb1
    have test : ∀ {Q : Value → Shared → Prop} {E : Value → Shared → Prop}, Q c { s' with heap := h3 } → wpAny (model X.prog X.w) (X.A.mark (some (.ref a))) (eval (.Name x np) X.env) Q E { s' with heap := h3 } := fun {Q E} q => by
      obtain ⟨hg, hdbg, hm | ⟨hm, hv, hnn⟩⟩ := hc
      · exact ld_glob (X := X.suite a ((a, oe3) :: (X.pn ++ pins))) S3 hg hm q hdbg
      · exact ld_blt (X := X.suite a ((a, oe3) :: (X.pn ++ pins))) S3 hg hm hv q hnn hdbg
    refine test (LM.here ?_)
    refine codeAny_handlers_suite_as ?_
    refine HandSPX.lands_againZ fl3 fun h4 fl4 up4 => ?_
    have J4 : Inv X pins σ' H' { s' with heap := h4 } := J.landed nb fl4.1 ((up.trans up3).trans up4) os ag
    obtain ⟨oe4, vs4, he4, hz4, hd4⟩ := fl4.there
    have S4 := J4.suite he4 hd4 na nL nF
    refine store_ok (X := X.suite a ((a, oe4) :: (X.pn ++ pins))) (v := .ref a) S4 hN hi hloc rfl (fun s5 S5 => ?_) (.inr hln)
    refine wpAny_mono ((hsu a oe4 cls d (X.pn ++ pins) hz4 ⟨_, hd4⟩).run [] s5 _ H' _ S5 (hyes a na)) (fun f s6 hsp => ?_) (fun _ _ z => False.elim z)
    have end_ : ∀ {σ6 : L2.St} {H6 : Hp} {Q : Shared → Prop}, Inv (X.suite a ((a, oe4) :: (X.pn ++ pins))) [] σ6 H6 s6 → (∀ s7, Inv X pins (σ6.set i none) H6 s7 → Q s7) →
        wpAny (model X.prog X.w) X.A (do bindName X.env n .none; unbindBehindTheSuite X.env n pos') (fun _ s7 => Q s7) X.xe s6 := fun {σ6 H6 Q} S6 hq => gone_ok (S6.unsuite ok) hN hi hln hq
    cases f with
    | next =>
      obtain ⟨σ6, H6, S6, q6⟩ := hsp
      exact end_ S6 fun s7 J7 => ⟨_, _, J7, q6⟩
    | brk =>
      obtain ⟨σ6, H6, S6, q6⟩ := hsp
      exact end_ S6 fun s7 J7 => ⟨_, _, J7, q6⟩
    | cont =>
      obtain ⟨σ6, H6, S6, q6⟩ := hsp
      exact end_ S6 fun s7 J7 => ⟨_, _, J7, q6⟩
    | ret u =>
      obtain ⟨v6, σ6, H6, S6, r6, q6⟩ := hsp
      exact end_ S6 fun s7 J7 => ⟨_, _, _, J7, r6, q6⟩
  · cases f with
    | next =>
      obtain ⟨σ', H', J', q⟩ := hsp
      exact wpAny_execs_nil ⟨σ', H', J'.ofTry ok, q⟩
    | brk =>
      obtain ⟨σ', H', J', q⟩ := hsp
      exact ⟨σ', H', J'.ofTry ok, q⟩
    | cont =>
      obtain ⟨σ', H', J', q⟩ := hsp
      exact ⟨σ', H', J'.ofTry ok, q⟩
    | ret u =>
      obtain ⟨v, σ', H', J', r, q⟩ := hsp
      exact ⟨v, σ', H', J'.ofTry ok, r, q⟩

/-- a source of draws stands at s; n draws more may be taken -/
def Sr5 (H : Hp) (s : Addr) (n : Nat) : Prop := ∃ a b c : Int, H s = some (.lst [.int a, .int b, .int c]) ∧ 0 ≤ b ∧ b < 2147483647 ∧ 0 ≤ c ∧ c + n ≤ 1000000000000
theorem Sr5.mono {s : Addr} {H H2 : Hp} {n : Nat} (e : Ex H H2) (h : Sr5 H s n) : Sr5 H2 s n := by
  obtain ⟨a, b, c, h, q⟩ := h
  exact ⟨a, b, c, e _ _ h, q⟩
theorem Sr5.less {s : Addr} {H : Hp} {n m : Nat} (h : Sr5 H s n) (l : m ≤ n) : Sr5 H s m := by
  obtain ⟨a, b, c, h, q1, q2, q3, q4⟩ := h
  exact ⟨a, b, c, h, q1, q2, q3, by omega⟩
theorem Sr5.ne {s p : Addr} {H : Hp} {n : Nat} (h : Sr5 H s n) (hp : H p = none) : p ≠ s := by
  obtain ⟨a, b, c, h, _⟩ := h
  exact (ne_of_none h hp).symm
theorem Sr5.new {s p : Addr} {H : Hp} {o : HO} {n : Nat} (h : Sr5 H s n) (hp : H p = none) : Sr5 (upd H p o) s n := Sr5.mono (exn hp) h
theorem Sr5.tup {s q : Addr} {H H2 : Hp} {xs : List V} {n : Nat} (src : Sr5 H s n) (h : H q = some (.tup xs)) (xb : XB s H H2) : H2 q = some (.tup xs) := by
  obtain ⟨a, b, c, e, _⟩ := src
  exact xb _ _ (ne_of h e (by intro z; cases z)) h
section
variable {P : Program} {w : World} {K : PySem.W.Frag} {mg : Str → Option Value} {base : Heap}
def sp_law_cell_at (K : PySem.W.Frag) : Sp := fun vs H Q _ => ∃ (a : Addr) (ns : List Int) (k : Int), vs = [.ref a, .int k] ∧ SqL K H a (ns.map V.int) ∧ 0 ≤ k ∧ ∀ i : Int, Q (.int i) H
theorem ok_law_cell_at (T : TX K mg) : FnOk P w K mg base CX0 1 T.f_law_cell_at T.fd_law_cell_at ["_law_script", "_law_k"] (sp_law_cell_at K) := by
  refine T.F_law_cell_at.ok sc_law_cell_at (fun vs H Q E h => ?_) (fun cdv A outer s H vs Q E hr h => ?_)
  · obtain ⟨a, ns, k, rfl, _⟩ := h
    rfl
  · obtain ⟨a, ns, j, rfl, hl, h0, k⟩ := h
    refine ⟨_, (pss_one (ps_ret (pe_ifExp (pt_cmpR op_lt (pv 1) (pe_callB call_len_seq (by rfl) T.z_len (by decide +kernel) (pa_cons (pv 0) pa_nil)) (nomark _)) (pe_ix ix_list (pv 0) (pv 1) (fun _ _ => rfl)) pe_int))), ?_⟩
    refine ⟨_, rfl, _, rfl, a, _, rfl, .inl hl, _, _, rfl, rfl, _, rfl, ?_⟩
    refine ite2 (fun h => ?_) (fun _ => k 0)
    rw [List.length_map] at h
    have hj : j < ns.length := of_decide_eq_true h
    obtain ⟨v, _, gv⟩ := at_ex (xs := ns) h0 hj
    exact ⟨_, rfl, _, rfl, a, _, _, _, rfl, rfl, hl, gv, k v⟩
def sp_law_source : Sp := fun vs H Q _ => ∃ c : Int, vs = [.int c] ∧ ∀ H2 s, Ex H H2 → H s = none → Sr5 H2 s 1000000000 → Q (.ref s) H2
theorem ok_law_source (T : TX K mg) : FnOk P w K mg base CX0 1 T.f_law_source T.fd_law_source ["_law_cell"] sp_law_source := by
  refine T.F_law_source.ok sc_law_source (fun vs H Q E h => ?_) (fun cdv A outer s H vs Q E hr h => ?_)
  · obtain ⟨c, rfl, _⟩ := h
    rfl
  · obtain ⟨c, rfl, k⟩ := h
    refine ⟨_, (pss_one (ps_ret (pe_lst (pa_cons (pe_op op_mulI (pv 0) (pe_callTy call_int1 (by rfl) T.z_int (by decide +kernel) (pa_cons (pe_cmpR op_ge (pv 0) (pe_op op_pow pe_int pe_int) (nomark _)) pa_nil))) (pa_cons (pe_op op_mod (pv 0) pe_int) (pa_cons pe_int pa_nil)))))), ?_⟩
    refine ⟨_, rfl, _, rfl, _, _, rfl, rfl, ⟨by decide, by decide, by decide⟩, _, _, rfl, rfl, .inr ⟨_, rfl, _, _, rfl, rfl, mul_ok (.inr ?_), ?_⟩⟩
    · split <;> decide
    refine ⟨_, rfl, _, _, rfl, rfl, (by show (0 : Int) < _; decide), by show 3 ≤ sizeLine; decide, fun s hs => k _ s (exn hs) hs ⟨_, _, 0, upd_same, mod_lo (by decide), mod_hi (by decide), by decide, by decide⟩⟩
def sp_law_take : Sp := fun vs H Q _ => ∃ (s : Addr) (n : Int) (m : Nat), vs = [.ref s, .int n] ∧ Sr5 H s (m + 1) ∧ 0 < n ∧ n.natAbs < 2 ^ 8000 ∧ ∀ r H2, 0 ≤ r → r < n → XB s H H2 → Sr5 H2 s m → Q (.int r) H2
theorem ok_law_take (T : TX K mg) : FnOk P w K mg base CX0 1 T.f_law_take T.fd_law_take ["_law_source_here", "_law_bound"] sp_law_take := by
  refine T.F_law_take.ok sc_law_take (fun vs H Q E h => ?_) (fun cdv A outer s H vs Q E hr h => ?_)
  · obtain ⟨s, n, m, rfl, _⟩ := h
    rfl
  · obtain ⟨s, n, m, rfl, ⟨a, b, c, hs, b0, b1, c0, c1⟩, n0, n8, k⟩ := h
    refine ⟨_, (pss_cons (ps_if (pt_cmpR op_gt (pe_ix ix_list (pv 0) pe_int (fun _ _ => rfl)) pe_int (nomark _)) (pss_cons (ps_set (i := 2) sc_law_take.nd rfl (Or.inl rfl) (pe_op op_mod (pe_ix ix_list (pv 0) pe_int (fun _ _ => rfl)) (pv 1))) (pss_cons (ps_asg (pe_op op_fdivW (pe_ix ix_list (pv 0) pe_int (fun _ _ => rfl)) (pv 1)) (pg_sub (pv 0) pe_int set_list)) (pss_one (ps_ret (pv 2))))) pss_nil) (pss_cons (ps_asg (pe_op op_add (pe_ix ix_list (pv 0) pe_int (fun _ _ => rfl)) pe_int) (pg_sub (pv 0) pe_int set_list)) (pss_cons (ps_set (i := 3) sc_law_take.nd rfl (Or.inl rfl) (pe_ix ix_list (pe_lst (pa_cons pe_int (pa_cons pe_int (pa_cons pe_int (pa_cons pe_int pa_nil))))) (pe_op op_mod (pe_ix ix_list (pv 0) pe_int (fun _ _ => rfl)) pe_int) (fun _ _ => rfl))) (pss_cons (ps_set (i := 4) sc_law_take.nd rfl (Or.inl rfl) (pe_op op_mod (pe_op op_pow (pe_op op_add (pe_op op_add (pe_ix ix_list (pv 0) pe_int (fun _ _ => rfl)) (pe_op op_mulI pe_int (pe_ix ix_list (pv 0) pe_int (fun _ _ => rfl)))) pe_int) pe_int) (pv 3))) (pss_cons (ps_set (i := 4) sc_law_take.nd rfl (Or.inl rfl) (pe_op op_mod (pe_op op_mulI (pe_op op_add (pv 4) (pe_ix ix_list (pv 0) pe_int (fun _ _ => rfl))) (pe_op op_add (pe_op op_fdivW (pv 4) pe_int) pe_int)) (pv 3))) (pss_cons (ps_set (i := 4) sc_law_take.nd rfl (Or.inl rfl) (pe_op op_mod (pe_op op_mulI (pv 4) (pe_op op_add (pe_op op_add (pe_op op_fdivW (pv 4) pe_int) (pe_op op_mulI pe_int (pe_ix ix_list (pv 0) pe_int (fun _ _ => rfl)))) pe_int)) (pv 3))) (pss_one (ps_ret (pe_op op_mod (pe_op op_fdivW (pv 4) pe_int) (pv 1)))))))))), ?_⟩
    refine ⟨_, rfl, s, _, _, _, rfl, rfl, SqL.of hs, rfl, _, _, rfl, rfl, _, rfl, ?_⟩
    refine ite2 (fun _ => ?_) (fun _ => ?_)
    · refine ⟨_, rfl, s, _, _, _, rfl, rfl, SqL.of hs, rfl, _, rfl, _, _, rfl, rfl, n0, ?_⟩
      refine ⟨_, rfl, s, _, _, _, rfl, rfl, SqL.of hs, rfl, _, rfl, _, _, rfl, rfl, wide_div n0 n8 (by decide) (by decide), _, rfl, s, _, _, 0, rfl, rfl, hs, rfl, ?_⟩
      exact ⟨_, rfl, k _ _ (mod_lo n0) (mod_hi n0) XB.upd ⟨_, _, _, upd_same, b0, b1, c0, by omega⟩⟩
    · refine ⟨_, rfl, s, _, _, _, rfl, rfl, SqL.of hs, rfl, _, _, rfl, rfl, _, rfl, s, _, _, 2, rfl, rfl, hs, rfl, ?_⟩
      have xb0 : XB s H (upd H s (.lst [.int a, .int b, .int (c + 1)])) := XB.upd
      have hs1 : upd H s (.lst [.int a, .int b, .int (c + 1)]) s = some (.lst [.int a, .int b, .int (c + 1)]) := upd_same
      show tSeq _ _ _ _ (upd H s (.lst [.int a, .int b, .int (c + 1)]))
      generalize upd H s (.lst [.int a, .int b, .int (c + 1)]) = H1 at xb0 hs1
      -- the prime
      refine ⟨by show 4 ≤ sizeLine; decide, fun pl hpl => ?_⟩
      have np : s ≠ pl := ne_of_none hs1 hpl
      have hs2 := exn (o := .lst [.int 2147483629, .int 2147483587, .int 2147483579, .int 2147483563]) hpl _ _ hs1
      obtain ⟨pr, mp, gp⟩ := at_ex (xs := [2147483629, 2147483587, 2147483579, 2147483563]) (r := (c + 1) % 4) (mod_lo (by decide)) (mod_hi (by decide))
      have p1 : 2000000000 < pr ∧ pr < 2147483648 := by
        simp only [List.mem_cons, List.not_mem_nil, or_false] at mp
        omega
      refine ⟨_, rfl, s, _, _, _, rfl, rfl, SqL.of hs2, rfl, _, _, rfl, rfl, (by show (0 : Int) < 4; decide), pl, _, _, _, rfl, rfl, SqL.of upd_same, gp, ?_⟩
      have xb2 : XB s H (upd H1 pl (.lst [.int 2147483629, .int 2147483587, .int 2147483579, .int 2147483563])) := xb0.trans (XB.of (exn hpl))
      show tSeq _ _ _ _ (upd H1 pl (.lst [.int 2147483629, .int 2147483587, .int 2147483579, .int 2147483563]))
      generalize upd H1 pl (.lst [.int 2147483629, .int 2147483587, .int 2147483579, .int 2147483563]) = H2 at xb2 hs2
      have e64 : (2 : Nat) ^ 64 = 18446744073709551616 := by decide
      refine ⟨_, rfl, s, _, _, _, rfl, rfl, SqL.of hs2, rfl, _, rfl, s, _, _, _, rfl, rfl, SqL.of hs2, rfl, _, _, rfl, rfl, mul_ok (.inl (by decide)), _, _, rfl, rfl, _, _, rfl, rfl, _, _, rfl, rfl, ⟨by decide, by decide, by rw [e64]; omega⟩, _, rfl, _, _, rfl, rfl, (by show 0 < pr; omega), ?_⟩
      have q1 := mod_lo (i := (b + 6007 * (c + 1) + 29) ^ (3 : Int).toNat) (n := pr) (by omega)
      have q2 := mod_hi (i := (b + 6007 * (c + 1) + 29) ^ (3 : Int).toNat) (n := pr) (by omega)
      dsimp only
      generalize (b + 6007 * (c + 1) + 29) ^ (3 : Int).toNat % pr = x1 at q1 q2
      refine ⟨_, rfl, _, rfl, s, _, _, _, rfl, rfl, SqL.of hs2, rfl, _, _, rfl, rfl, _, rfl, _, _, rfl, rfl, ⟨by decide, by decide +kernel⟩, _, _, rfl, rfl, _, _, rfl, rfl, mul_ok (.inr (by omega)), _, rfl, _, _, rfl, rfl, (by show 0 < pr; omega), ?_⟩
      have q3 := mod_lo (i := (x1 + (c + 1)) * (x1 / 1021 + 50021)) (n := pr) (by omega)
      have q4 := mod_hi (i := (x1 + (c + 1)) * (x1 / 1021 + 50021)) (n := pr) (by omega)
      dsimp only
      generalize (x1 + (c + 1)) * (x1 / 1021 + 50021) % pr = x2 at q3 q4
      refine ⟨_, rfl, _, rfl, _, _, rfl, rfl, ⟨by decide, by decide +kernel⟩, _, rfl, s, _, _, _, rfl, rfl, SqL.of hs2, rfl, _, _, rfl, rfl, mul_ok (.inl (by decide)), _, _, rfl, rfl, _, _, rfl, rfl, _, _, rfl, rfl, mul_ok (.inl (by omega)), _, rfl, _, _, rfl, rfl, (by show 0 < pr; omega), ?_⟩
      refine ⟨_, rfl, _, _, rfl, rfl, ⟨by decide, by decide +kernel⟩, _, rfl, _, _, rfl, rfl, n0, ?_⟩
      exact k _ _ (mod_lo n0) (mod_hi n0) xb2 ⟨_, _, _, hs2, b0, b1, by omega, by omega⟩
def sp_law_large : Sp := fun vs H Q _ => ∃ (s : Addr) (n : Int) (m : Nat), vs = [.ref s, .int n] ∧ Sr5 H s (m + 4) ∧ 0 < n ∧ ∀ r H2, 0 ≤ r → r < n → XB s H H2 → Sr5 H2 s m → Q (.int r) H2
theorem ok_law_large (T : TX K mg) : FnOk P w K mg base CX0 2 T.f_law_large T.fd_law_large ["_law_source_here", "_law_bound"] sp_law_large := by
  refine T.F_law_large.ok sc_law_large (fun vs H Q E h => ?_) (fun cdv A outer s H vs Q E hr h => ?_)
  · obtain ⟨s, n, m, rfl, _⟩ := h
    rfl
  · obtain ⟨s, n, m, rfl, hs, n0, k⟩ := h
    refine ⟨_, (pss_cons (ps_set (i := 2) sc_law_large.nd rfl (Or.inl rfl) pe_int) (pss_cons (ps_for PassesOwn.never rfl (pi_range1 rfl T.z_range (pa_cons pe_int pa_nil)) (pg_name (i := 3) sc_law_large.nd rfl (Or.inl rfl)) (pss_one (ps_set (i := 2) sc_law_large.nd rfl (Or.inl rfl) (pe_op op_add (pe_op op_mulI (pv 2) (pe_op op_pow pe_int pe_int)) (pe_call (ok_law_take T) hr rfl T.m_law_take T.F_law_take.kp T.b_law_take .nil pass0 (pa_cons (pv 0) (pa_cons (pe_op op_pow pe_int pe_int) pa_nil))))))) (pss_one (ps_ret (pe_op op_mod (pv 2) (pv 1)))))), ?_⟩
    refine ⟨4, rfl, by decide, by decide, ?_⟩
    refine for_it walk_range (fun i σ H2 => ∃ (x : Int) (y : Option V), σ = [some (.ref s), some (.int n), some (.int x), y] ∧ XB s H H2 ∧ Sr5 H2 s (m + (4 - i))) ⟨0, none, rfl, XB.refl, hs⟩ (fun _ _ _ _ _ => True.intro) ?_ ?_
    · rintro i x σ _ H2 hi ⟨y, z, rfl, xb, sr⟩ ⟨rfl, rfl⟩
      have hi4 : i < 4 := hi
      have e9 : (10 : Int) ^ (9 : Int).toNat = 1000000000 := by decide
      refine ⟨_, rfl, _, _, rfl, rfl, ⟨by decide, by decide, by decide⟩, _, _, rfl, rfl, mul_ok (.inr (by rw [e9]; omega)), _, rfl, _, _, rfl, rfl, ⟨by decide, by decide, by decide⟩, s, _, m + (4 - (i + 1)), rfl, sr.less (by omega), by decide, by decide +kernel, fun r H3 r0 r1 xb3 sr3 => ?_⟩
      exact ⟨_, _, rfl, rfl, _, _, rfl, xb.trans xb3, sr3⟩
    · rintro σ H2 ⟨x, y, rfl, xb, sr⟩
      exact ⟨_, rfl, _, rfl, _, _, rfl, rfl, n0, k _ _ (mod_lo n0) (mod_hi n0) xb sr⟩
end

/-! ### inverses -/
structure InvI (u m a x b y : Int) : Prop where
  a1 : 0 < a
  b0 : 0 ≤ b
  am : a ≤ m
  bm : b ≤ m
  ax : m ∣ a - x * u
  bx : m ∣ b - y * u
  g : Int.gcd a b = Int.gcd u m
  sz : (x.natAbs : Int) * b + (y.natAbs : Int) * a ≤ m
theorem InvI.init {u m : Int} (h : 1 ≤ m) : InvI u m m 0 (u % m) 1 where
  a1 := by omega
  b0 := Int.emod_nonneg _ (by omega)
  am := Int.le_refl _
  bm := Int.le_of_lt (Int.emod_lt_of_pos _ (by omega))
  ax := by rw [Int.zero_mul, Int.sub_zero]; exact Int.dvd_refl _
  bx := by
    have e : u % m - 1 * u = m * (-(u / m)) := by
      have := Int.emod_add_mul_ediv u m
      grind
    rw [e]
    exact Int.dvd_mul_right _ _
  g := gcd_turn (by omega)
  sz := by
    have e1 : ((0 : Int).natAbs : Int) = 0 := rfl
    have e2 : ((1 : Int).natAbs : Int) = 1 := rfl
    rw [e1, e2]
    omega
theorem InvI.step {u m a x b y : Int} (h : InvI u m a x b y) (hb : 0 < b) : InvI u m b y (a - a / b * b) (x - a / b * y) ∧ a - a / b * b < b := by
  have e : a - a / b * b = a % b := by
    have := Int.emod_add_mul_ediv a b
    grind
  have q0 : 0 ≤ a / b := Int.ediv_nonneg (by have := h.a1; omega) (by omega)
  have l1 := Int.emod_lt_of_pos a hb
  have l0 := Int.emod_nonneg a (show b ≠ 0 by omega)
  refine ⟨⟨hb, by omega, h.bm, by have := h.bm; omega, h.bx, ?_, ?_, ?_⟩, by omega⟩
  · have e2 : a - a / b * b - (x - a / b * y) * u = (a - x * u) - a / b * (b - y * u) := by grind
    rw [e2]
    exact Int.dvd_sub h.ax (Int.dvd_trans h.bx (Int.dvd_mul_left _ _))
  · rw [e, gcd_turn (by omega)]
    exact h.g
  · have h1 := h.sz
    have z1 : ((x - a / b * y).natAbs : Int) ≤ x.natAbs + a / b * y.natAbs := by
      have t1 : (x - a / b * y).natAbs ≤ x.natAbs + (a / b * y).natAbs := by omega
      have t2 : ((a / b * y).natAbs : Int) = a / b * y.natAbs := by
        rw [Int.natAbs_mul, Int.natCast_mul, Int.natAbs_of_nonneg q0]
      omega
    have z2 := Int.mul_le_mul_of_nonneg_right z1 (show 0 ≤ b by omega)
    have z3 : (y.natAbs : Int) * (a - a / b * b) + ((x.natAbs : Int) + a / b * y.natAbs) * b = (y.natAbs : Int) * a + (x.natAbs : Int) * b := by grind
    omega
theorem InvI.ybound {u m a x b y : Int} (h : InvI u m a x b y) : (y.natAbs : Int) ≤ m := by
  have h1 := h.sz
  have h2 : 0 ≤ (x.natAbs : Int) * b := Int.mul_nonneg (by omega) h.b0
  have h3 : (y.natAbs : Int) * 1 ≤ (y.natAbs : Int) * a := Int.mul_le_mul_of_nonneg_left (by have := h.a1; omega) (by omega)
  omega
theorem InvI.done {u m a x y : Int} (h : InvI u m a x 0 y) (co : Int.gcd u m = 1) : u * (x % m) % m = 1 % m := by
  have a1 : a = 1 := by
    have := h.g
    rw [co] at this
    have h2 : a.natAbs = 1 := by rw [← this]; simp
    have := h.a1
    omega
  have hx := h.ax
  rw [a1] at hx
  rw [Int.mul_emod, Int.emod_emod, ← Int.mul_emod, Int.mul_comm]
  exact (emod_eq_iff.mpr hx).symm
theorem InvI.ex {u m a x y : Int} (h : InvI u m a x 0 y) : (1 : Int) ≤ m := by
  have := h.a1
  have := h.am
  omega
/-- inverses are unique -/
theorem inv_unique {u m r t : Int} (r0 : 0 ≤ r) (r1 : r < m) (t0 : 0 ≤ t) (t1 : t < m) (hr : u * r % m = 1 % m) (ht : u * t % m = 1 % m) : r = t := by
  have h1 : m ∣ u * r - 1 := emod_eq_iff.mp hr
  have h2 : m ∣ u * t - 1 := emod_eq_iff.mp ht
  have h3 : m ∣ r - t := by
    have e : r - t = t * (u * r - 1) - r * (u * t - 1) := by grind
    rw [e]
    exact Int.dvd_sub (Int.dvd_trans h1 (Int.dvd_mul_left _ _)) (Int.dvd_trans h2 (Int.dvd_mul_left _ _))
  have h4 := emod_eq_iff.mpr h3
  rw [Int.emod_eq_of_lt r0 r1, Int.emod_eq_of_lt t0 t1] at h4
  exact h4

section
variable {P : Program} {w : World} {K : PySem.W.Frag} {mg : Str → Option Value} {base : Heap}
def sp_law_gcd : Sp := fun vs H Q _ => ∃ a b : Int, vs = [.int a, .int b] ∧ 0 ≤ a ∧ 0 ≤ b ∧ Q (.int (gcdI a b)) H
theorem ok_law_gcd (T : TX K mg) : FnOk P w K mg base CX0 1 T.f_law_gcd T.fd_law_gcd ["_law_a", "_law_b"] sp_law_gcd := by
  refine T.F_law_gcd.ok sc_law_gcd (fun vs H Q E h => ?_) (fun cdv A outer s H vs Q E hr h => ?_)
  · obtain ⟨a, b, rfl, _⟩ := h
    rfl
  · obtain ⟨a0, b0, rfl, h1, h2, k⟩ := h
    refine ⟨_, (pss_cons (ps_while PassesOwn.never (pt_cmpR op_ne (pv 1) pe_int (nomark _)) (pss_one (ps_par (i := 0) (j := 1) rfl sc_law_gcd.nd rfl rfl (by decide) rfl rfl (pa_cons (pv 1) (pa_cons (pe_op op_mod (pv 0) (pv 1)) pa_nil)) (by rfl)))) (pss_one (ps_ret (pe_callB call_abs (by rfl) T.z_abs (by decide +kernel) (pa_cons (pv 0) pa_nil))))), ?_⟩
    refine ⟨fun m σ H2 => ∃ a b : Int, σ = [some (.int a), some (.int b)] ∧ H2 = H ∧ 0 ≤ a ∧ 0 ≤ b ∧ Int.gcd a b = Int.gcd a0 b0 ∧ m = b.toNat, ⟨_, a0, b0, rfl, rfl, h1, h2, rfl, rfl⟩, ?_⟩
    rintro m σ _ ⟨a, b, rfl, rfl, ha, hb, hg, rfl⟩
    refine ⟨_, rfl, rfl, _, rfl, ?_⟩
    by_cases hz : b = 0
    · subst hz
      refine itf (by simp) ⟨_, rfl, a, rfl, ?_⟩
      rw [if_neg (by omega)]
      have e : (Int.gcd a 0 : Nat) = a.natAbs := by simp
      have e2 : gcdI a0 b0 = a := by
        show ((Int.gcd a0 b0 : Nat) : Int) = a
        rw [← hg, e]
        omega
      rw [e2] at k
      exact k
    · refine itt (by rw [dec_int]; simp [hz]) ⟨_, fun _ _ h => h, ?_⟩
      have q1 := Int.emod_lt_of_pos a (show 0 < b by omega)
      have q2 := Int.emod_nonneg a hz
      exact ⟨_, rfl, _, rfl, _, rfl, _, _, rfl, rfl, (by show 0 < b; omega), _, _, rfl, _, (by show (a % b).toNat < b.toNat; omega), _, _, rfl, rfl, hb, q2, by rw [gcd_turn hz, hg], rfl⟩
end

section
variable {P : Program} {w : World} {K : PySem.W.Frag} {mg : Str → Option Value} {base : Heap}
def sp_law_inverse : Sp := fun vs H Q _ => ∃ (u m : Int), vs = [.int u, .int m] ∧ 1 ≤ m ∧ m ≤ 10 ^ 45 ∧ Int.gcd u m = 1 ∧ ∀ r H2, 0 ≤ r → r < m → u * r % m = 1 % m → Ex H H2 → Q (.int r) H2
theorem ok_law_inverse (T : TX K mg) : FnOk P w K mg base CX0 1 T.f_law_inverse T.fd_law_inverse ["_law_number", "_law_modulus"] sp_law_inverse := by
  refine T.F_law_inverse.ok sc_law_inverse (fun vs H Q E h => ?_) (fun cdv A outer s H vs Q E hr h => ?_)
  · obtain ⟨u, m, rfl, _⟩ := h
    rfl
  · obtain ⟨u, m, rfl, m1, m2, co, k⟩ := h
    refine ⟨_, (pss_cons (ps_par (i := 2) (j := 3) rfl sc_law_inverse.nd rfl rfl (by decide) rfl rfl (pa_cons (pe_tup (pa_cons (pv 1) (pa_cons pe_int pa_nil))) (pa_cons (pe_tup (pa_cons (pe_op op_mod (pv 0) (pv 1)) (pa_cons pe_int pa_nil))) pa_nil)) (by rfl)) (pss_cons (ps_while PassesOwn.never (pt_cmpR op_gt (pe_ix ix_tup (pv 3) pe_int (fun _ _ => rfl)) pe_int (nomark _)) (pss_cons (ps_set (i := 4) sc_law_inverse.nd rfl (Or.inl rfl) (pe_op op_fdivW (pe_ix ix_tup (pv 2) pe_int (fun _ _ => rfl)) (pe_ix ix_tup (pv 3) pe_int (fun _ _ => rfl)))) (pss_one (ps_par (i := 2) (j := 3) rfl sc_law_inverse.nd rfl rfl (by decide) rfl rfl (pa_cons (pv 3) (pa_cons (pe_tup (pa_cons (pe_op op_sub (pe_ix ix_tup (pv 2) pe_int (fun _ _ => rfl)) (pe_op op_mulI (pv 4) (pe_ix ix_tup (pv 3) pe_int (fun _ _ => rfl)))) (pa_cons (pe_op op_sub (pe_ix ix_tup (pv 2) pe_int (fun _ _ => rfl)) (pe_op op_mulI (pv 4) (pe_ix ix_tup (pv 3) pe_int (fun _ _ => rfl)))) pa_nil))) pa_nil)) (by rfl))))) (pss_one (ps_ret (pe_op op_mod (pe_ix ix_tup (pv 2) pe_int (fun _ _ => rfl)) (pv 1)))))), ?_⟩
    refine ⟨_, rfl, by show 2 ≤ sizeLine; decide, fun l0 hl0 => ⟨_, rfl, _, rfl, _, _, rfl, rfl, (by show 0 < m; omega), by show 2 ≤ sizeLine; decide, fun h0 hh0 => ⟨_, _, rfl, ?_⟩⟩⟩
    refine ⟨fun j σ H2 => ∃ (lo hi : Addr) (y4 : Option V) (a x b y : Int), σ = [some (.int u), some (.int m), some (.ref lo), some (.ref hi), y4] ∧ Ex H H2 ∧ H2 lo = some (.tup [.int a, .int x]) ∧ H2 hi = some (.tup [.int b, .int y]) ∧ InvI u m a x b y ∧ j = b.toNat, ⟨_, l0, h0, none, m, 0, u % m, 1, rfl, ext (exn hl0) (exn hh0), exn hh0 _ _ upd_same, upd_same, .init m1, rfl⟩, ?_⟩
    rintro j σ H2 ⟨lo, hi, y4, a, x, b, y, rfl, e2, hlo, hhi, inv, rfl⟩
    refine ⟨_, rfl, hi, _, _, _, rfl, rfl, SqT.of hhi, rfl, _, _, rfl, rfl, _, rfl, ?_⟩
    refine ite2 (fun hb => ?_) (fun hb => ?_)
    · have hb : 0 < b := of_decide_eq_true hb
      obtain ⟨inv2, lt⟩ := inv.step hb
      have q0 : 0 ≤ a / b := Int.ediv_nonneg (by have := inv.a1; omega) (by omega)
      have qa : a / b ≤ a := Int.ediv_le_self _ (by have := inv.a1; omega)
      have bb : b.natAbs < 2 ^ 150 := abs45 (by omega) (Int.le_trans inv.bm m2)
      have qq : (a / b).natAbs < 2 ^ 150 := abs45 q0 (Int.le_trans qa (Int.le_trans inv.am m2))
      have yy : y.natAbs < 2 ^ 150 := by
        have := abs45 (n := (y.natAbs : Int)) (by omega) (Int.le_trans inv.ybound m2)
        rw [Int.natAbs_natCast] at this
        exact this
      refine ⟨_, fun _ _ h => h, ?_⟩
      refine ⟨_, rfl, lo, _, _, _, rfl, rfl, SqT.of hlo, rfl, _, rfl, hi, _, _, _, rfl, rfl, SqT.of hhi, rfl, _, _, rfl, rfl, wide_div hb bb (by decide) (by decide), ?_⟩
      refine ⟨_, rfl, _, rfl, lo, _, _, _, rfl, rfl, SqT.of hlo, rfl, _, rfl, _, rfl, hi, _, _, _, rfl, rfl, SqT.of hhi, rfl, _, _, rfl, rfl, (wide_mul qq bb (by decide) (by decide) (by decide)).ok, _, _, rfl, rfl, ?_⟩
      refine ⟨_, rfl, lo, _, _, _, rfl, rfl, SqT.of hlo, rfl, _, rfl, _, rfl, hi, _, _, _, rfl, rfl, SqT.of hhi, rfl, _, _, rfl, rfl, (wide_mul qq yy (by decide) (by decide) (by decide)).ok, _, _, rfl, rfl, by show 2 ≤ sizeLine; decide, fun nt hnt => ?_⟩
      have e3 := exn (o := .tup [.int (a - a / b * b), .int (x - a / b * y)]) hnt
      refine ⟨_, _, rfl, _, (by show (a - a / b * b).toNat < b.toNat; have := inv2.b0; omega), hi, nt, _, b, y, a - a / b * b, x - a / b * y, rfl, ext e2 e3, e3 _ _ hhi, upd_same, inv2, rfl⟩
    · have hb : ¬ 0 < b := fun z => hb (decide_eq_true z)
      obtain rfl : b = 0 := by have := inv.b0; omega
      refine ⟨_, rfl, lo, _, _, _, rfl, rfl, SqT.of hlo, rfl, _, rfl, _, _, rfl, rfl, (by show 0 < m; omega), ?_⟩
      exact k _ _ (mod_lo (by omega)) (mod_hi (by omega)) (inv.done co) e2
end

theorem bit_two {x y : Int} (h : x.natAbs < 2 ^ 150) (c : Nat) (hc : c ≤ 200) : CShl x (c : Int) := shl_ok (n := 150) h (by omega)
section
variable {P : Program} {w : World} {K : PySem.W.Frag} {mg : Str → Option Value} {base : Heap}
def sp_require_at_least : Sp := fun vs H Q _ => ∃ (i low : Int) (nm : V), vs = [.int i, .int low, nm] ∧ low ≤ i ∧ Q .non H
theorem ok_require_at_least (T : TX K mg) : FnOk P w K mg base CX0 3 T.f_require_at_least T.fd_require_at_least ["value", "low", "name"] sp_require_at_least := by
  refine T.F_require_at_least.ok sc_require_at_least (fun vs H Q E h => ?_) (fun cdv A outer s H vs Q E hr h => ?_)
  · obtain ⟨i, low, nm, rfl, _⟩ := h
    rfl
  · obtain ⟨i, low, nm, rfl, h, k⟩ := h
    refine ⟨_, (pss_one (ps_if (pt_not (pt_val (pe_call (ok_is_at_least T) hr rfl T.m_is_at_least T.F_is_at_least.kp T.b_is_at_least .nil pass0 (pa_cons (pv 0) (pa_cons (pv 1) pa_nil))))) pss_never pss_nil)), ?_⟩
    refine ⟨_, rfl, _, rfl, _, some i, low, rfl, rfl, _, rfl, itf ?_ k⟩
    show (!decide (low ≤ i)) = false
    rw [decide_eq_true h]
    rfl
def sp_require_place : Sp := fun vs H Q _ => ∃ (n p : Int) (nm : V), vs = [.int n, .int p, nm] ∧ 0 ≤ p ∧ p < n ∧ Q .non H
theorem ok_require_place (T : TX K mg) : FnOk P w K mg base CX0 3 T.f_require_place T.fd_require_place ["size", "place", "name"] sp_require_place := by
  refine T.F_require_place.ok sc_require_place (fun vs H Q E h => ?_) (fun cdv A outer s H vs Q E hr h => ?_)
  · obtain ⟨n, p, nm, rfl, _⟩ := h
    rfl
  · obtain ⟨n, p, nm, rfl, p0, p1, k⟩ := h
    refine ⟨_, (pss_one (ps_if (pt_not (pt_val (pe_call (ok_is_between T) hr rfl T.m_is_between T.F_is_between.kp T.b_is_between .nil pass0 (pa_cons (pv 1) (pa_cons pe_int (pa_cons (pe_op op_sub (pv 0) pe_int) pa_nil)))))) pss_never pss_nil)), ?_⟩
    refine ⟨_, rfl, _, rfl, _, _, rfl, rfl, _, some p, 0, n - 1, rfl, rfl, _, rfl, itf ?_ k⟩
    show (!(decide (0 ≤ p) && decide (p ≤ n - 1))) = false
    rw [decide_eq_true p0, decide_eq_true (by omega)]
    rfl
end

section
variable {P : Program} {w : World} {K : PySem.W.Frag} {mg : Str → Option Value} {base : Heap}
def sp_require_limit : Sp := fun vs H Q _ => ∃ (i j : Int), vs = [.int i, .int j] ∧ i ≤ j ∧ Q .non H
theorem ok_require_limit (T : TX K mg) : FnOk P w K mg base CX0 1 T.f_require_limit T.fd_require_limit ["number", "limit"] sp_require_limit := by
  refine T.F_require_limit.ok sc_require_limit (fun vs H Q E h => ?_) (fun cdv A outer s H vs Q E hr h => ?_)
  · obtain ⟨i, j, rfl, _⟩ := h
    rfl
  · obtain ⟨i, j, rfl, h, k⟩ := h
    refine ⟨_, (pss_one (ps_if (pt_cmpR op_gt (pv 0) (pv 1) (nomark _)) pss_never pss_nil)), ?_⟩
    exact ⟨_, rfl, _, rfl, _, _, rfl, rfl, _, rfl, itf (decide_eq_false (by omega)) k⟩
def sp_require_places : Sp := fun vs H Q _ => ∃ (n : Int) (q : Bool × Addr) (ts : List Int), vs = [.int n, .ref q.2] ∧ 1 ≤ n ∧ SqH H q (ts.map V.int) ∧ ts ≠ [] ∧ ts.length ≤ 100000 ∧ (∀ t ∈ ts, 0 ≤ t ∧ t < n) ∧ ts.Nodup ∧ ∀ H2, Ex H H2 → Q .non H2
theorem ok_require_places (T : TX K mg) : FnOk P w K mg base CX0 4 T.f_require_places T.fd_require_places ["size", "targets"] sp_require_places := by
  refine T.F_require_places.ok sc_require_places (fun vs H Q E h => ?_) (fun cdv A outer s H vs Q E hr h => ?_)
  · obtain ⟨n, q, ts, rfl, _⟩ := h
    rfl
  · obtain ⟨n, ⟨b, a⟩, ts, rfl, n1, hq, ne, lts, inr, nod, k⟩ := h
    refine ⟨_, (pss_cons (ps_expr (pe_call (ok_require_at_least T) hr rfl T.m_require_at_least T.F_require_at_least.kp T.b_require_at_least .nil pass0 (pa_cons (pv 0) (pa_cons pe_int (pa_cons pe_str pa_nil))))) (pss_cons (ps_if (PW.pt (pw_or (pt_not (pt_val (pe_callB call_isiT (by rfl) T.z_isinstance (by decide +kernel) (pa_cons (pv 1) (pa_cons (pe_tup (pa_cons (pe_bltn (v := .ty "list") rfl T.z_list (by decide +kernel) rfl) (pa_cons (pe_bltn (v := .ty "tuple") rfl T.z_tuple (by decide +kernel) rfl) pa_nil))) pa_nil))))) (pw_or1 (pt_cmpR op_eq (pe_callB call_len_seq (by rfl) T.z_len (by decide +kernel) (pa_cons (pv 1) pa_nil)) pe_int (nomark _))))) pss_never pss_nil) (pss_cons (ps_set (i := 2) sc_require_places.nd rfl (Or.inl rfl) pe_dnewK) (pss_one (ps_for PassesOwn.never rfl (CE.pi_e rfl T.z_enumerate (pa_cons (pv 1) pa_nil)) (pg_tup rfl (pgs_cons (pg_name (i := 3) sc_require_places.nd rfl (Or.inl rfl)) (pgs_cons (pg_name (i := 4) sc_require_places.nd rfl (Or.inl rfl)) pgs_nil))) (pss_cons (ps_if (PW.pt (pw_or (pt_not (pt_val (pe_call (ok_is_between T) (hr.mono (by decide)) rfl T.m_is_between T.F_is_between.kp T.b_is_between .nil pass0 (pa_cons (pv 4) (pa_cons pe_int (pa_cons (pe_op op_sub (pv 0) pe_int) pa_nil)))))) (pw_or1 (pt_cmp (pc_din (hu_of hr) (pv 4) (pv 2)))))) pss_never pss_nil) (pss_one (ps_dput (hu_of hr) (pv 2) (pv 4) (pv 3) (by rfl))))))))), ?_⟩
    refine ⟨_, rfl, n, 1, _, rfl, n1, ?_⟩
    have pos := List.length_pos_iff.mpr ne
    refine ⟨_, rfl, by show 2 ≤ sizeLine; decide, fun y hy => ?_⟩
    have q1 := hq.mono (exn (o := .tup [.ty "list", .ty "tuple"]) hy)
    refine ⟨_, y, _, _, _, true, rfl, upd_same, .cons (.ty _) (.cons (.ty _) .nil), q1.ty, kit_seq b, _, rfl, ?_⟩
    refine ⟨_, rfl, a, _, rfl, sq_or q1, rfl, _, rfl, itf (by rw [dec_int, List.length_map]; simp; exact ne) ?_⟩
    intro d hd
    have e2 := ext (exn (o := .tup [.ty "list", .ty "tuple"]) hy) (exn (o := .dK []) hd)
    have q2 := hq.mono e2
    refine ⟨_, rfl, (b, a), rfl, ⟨_, q2.sq⟩, ?_⟩
    refine for_it (CE.walk_e (xs := ts.map V.int)) (fun i σ H2 => ∃ (y3 y4 : Option V) (kvs : List (Key × V)), σ = [some (.int n), some (.ref a), some (.ref d), y3, y4] ∧ Ex H H2 ∧ H2 d = some (.dK kvs) ∧ kvs.length = i ∧ ∀ t : Int, (valV kvs (.inl t)).isSome = true → t ∈ ts.take i) ⟨_, _, [], rfl, e2, upd_same, rfl, fun t h => by simp [valV] at h⟩ (fun i σ H2 _ ⟨_, _, _, _, e, _⟩ => (hq.mono e).sq) ?_ ?_
    · rintro i x σ H2 H3 hi ⟨y3, y4, kvs, rfl, e3, hd3, lk, hv⟩ yy
      obtain ⟨Ta, x1, x2, rfl, hT, rfl, hx1, hx2⟩ := yy
      cases hx1
      obtain ⟨t, ht, rfl⟩ := map_get hx2
      obtain ⟨t0, t1⟩ := inr t (List.mem_of_getElem? ht)
      have e4 := exn (o := .tup [.int (i : Nat), .int t]) hT
      refine ⟨Ta, _, rfl, SqT.of upd_same, rfl, _, _, rfl, _, _, rfl, rfl, ?_⟩
      refine ⟨_, rfl, _, rfl, _, _, rfl, rfl, _, some t, 0, n - 1, rfl, rfl, _, rfl, itf ?_ ?_⟩
      · show (!(decide (0 ≤ t) && decide (t ≤ n - 1))) = false
        rw [decide_eq_true t0, decide_eq_true (by omega)]
        rfl
      have hno : valV kvs (.inl t) = none := by
        cases hz : valV kvs (.inl t) with
        | none => rfl
        | some v =>
          have := hv t (by rw [hz]; rfl)
          obtain ⟨j, hj⟩ := List.getElem?_of_mem this
          have hj2 := List.getElem?_eq_some_iff.mp hj
          obtain ⟨jl, je⟩ := hj2
          rw [List.length_take] at jl
          rw [List.getElem_take] at je
          obtain ⟨il, ie⟩ := List.getElem?_eq_some_iff.mp ht
          exact absurd (je.trans ie.symm) (List.pairwise_iff_getElem.mp nod j i (by omega) il (by omega))
      refine ⟨_, rfl, _, rfl, d, _, rfl, DGet.k (k := .inl t) (e4 _ _ hd3), _, rfl, itf (by rw [hno]; rfl) ?_⟩
      refine ⟨_, rfl, _, rfl, _, rfl, d, _, rfl, DPut.k (k := .inl t) (e4 _ _ hd3) ?_, ?_⟩
      · rw [lk]
        rw [List.length_map] at hi
        exact Nat.lt_of_lt_of_le hi (Nat.le_trans lts (by decide))
      · refine ⟨_, _, putK kvs (.inl t) (.int (i : Nat)), rfl, ?_, upd_same, ?_, fun u hu => ?_⟩
        · intro c o z
          rw [upd_ne (ne_of_none z (Evl.fresh_back (exn (o := .tup [.ty "list", .ty "tuple"]) hy) hd))]
          exact e4 c o (e3 c o z)
        · have hany : (kvs.any fun kv => decide (kv.1 = Sum.inl t)) = false := by rw [valV_any, hno]; rfl
          unfold putK
          rw [hany, if_neg Bool.false_ne_true, List.length_append, lk]
          rfl
        · rw [valV_put] at hu
          rw [take_more ht, List.mem_append]
          by_cases e : u = t
          · exact .inr (by rw [e]; exact List.mem_cons_self)
          · rw [if_neg (fun z => e (Sum.inl.inj z))] at hu
            exact .inl (hv u hu)
    · rintro σ H2 ⟨y3, y4, kvs, rfl, e3, _⟩
      exact k _ e3
end

theorem in_ints (x : Int) (l : List Int) : inV (V.int x) (l.map V.int) = decide (x ∈ l) := by
  rw [Bool.eq_iff_iff, decide_eq_true_eq]
  unfold inV
  rw [List.any_map, List.any_eq_true]
  constructor
  · rintro ⟨y, hy, h⟩
    have h2 : y = x := by simpa [eqV] using h
    rw [← h2]
    exact hy
  · intro h
    exact ⟨x, h, by simp [eqV]⟩
theorem flat_ints (l : List Int) : (l.map V.int).all flatV = true := by
  rw [List.all_map, List.all_eq_true]
  exact fun x _ => rfl
theorem Sr5.app {s D : Addr} {H : Hp} {o : HO} {m : Nat} (h : Sr5 H s m) (n : D ≠ s) : Sr5 (upd H D o) s m := by
  obtain ⟨a, b, c, z, q⟩ := h
  exact ⟨a, b, c, by rw [upd_ne n.symm]; exact z, q⟩
theorem XB.app5 {s D : Addr} {H H2 : Hp} {o : HO} (xb : XB s H H2) (hD : H D = none) : XB s H (L2.upd H2 D o) := fun c u n z => by
  rw [upd_ne (ne_of_none z hD)]
  exact xb c u n z
section
variable {P : Program} {w : World} {K : PySem.W.Frag} {mg : Str → Option Value} {base : Heap}
def sp_law_targets : Sp := fun vs H Q _ => ∃ (s : Addr) (n b : Int) (m : Nat), vs = [.ref s, .int n, .int b] ∧ Sr5 H s (m + 401) ∧ 0 < n ∧ 1 ≤ b ∧ b ≤ 100 ∧
  ∀ (l : Addr) (ts : List Int) H2, H l = none → H2 l = some (.lst (ts.map V.int)) → ts ≠ [] → ts.length ≤ 100 → (∀ t ∈ ts, 0 ≤ t ∧ t < n) → ts.Nodup → XB s H H2 → Sr5 H2 s m → Q (.ref l) H2
theorem ok_law_targets (T : TX K mg) : FnOk P w K mg base CX0 3 T.f_law_targets T.fd_law_targets ["_law_source_here", "_law_ring", "_law_bound"] sp_law_targets := by
  refine T.F_law_targets.ok sc_law_targets (fun vs H Q E h => ?_) (fun cdv A outer s H vs Q E hr h => ?_)
  · obtain ⟨s, n, b, m, rfl, _⟩ := h
    rfl
  · obtain ⟨s, n, b, m, rfl, hs, n0, b1, b2, k⟩ := h
    refine ⟨_, (pss_cons (ps_set (i := 3) sc_law_targets.nd rfl (Or.inl rfl) (pe_lst pa_nil)) (pss_cons (ps_for PassesOwn.never rfl (pi_range1 rfl T.z_range (pa_cons (pe_op op_add pe_int (pe_call (ok_law_take T) (hr.mono (by decide)) rfl T.m_law_take T.F_law_take.kp T.b_law_take .nil pass0 (pa_cons (pv 0) (pa_cons (pv 2) pa_nil)))) pa_nil)) (pg_name (i := 4) sc_law_targets.nd rfl (Or.inl rfl)) (pss_cons (ps_set (i := 5) sc_law_targets.nd rfl (Or.inl rfl) (pe_call (ok_law_large T) hr rfl T.m_law_large T.F_law_large.kp T.b_law_large .nil pass0 (pa_cons (pv 0) (pa_cons (pv 1) pa_nil)))) (pss_one (ps_if (pt_cmpR op_notIn_seq (pv 5) (pv 3) rfl) (pss_one (ps_expr (pe_bm PySem.F.plainAttrs_list PySem.F.slot_list_append PySem.F.type_list_append mt_append (pv 3) (pa_cons (pv 5) pa_nil)))) pss_nil)))) (pss_one (ps_ret (pv 3))))), ?_⟩
    refine ⟨slen rfl, ?_⟩
    (intro fl nfl; generalize hGfl : upd _ fl _ = H1; have eH1 := exG hGfl nfl; have hfl := atG hGfl; clear hGfl)
    have fls : fl ≠ s := hs.ne nfl
    refine ⟨_, rfl, _, rfl, s, b, m + 400, rfl, hs.mono eH1, by omega, Nat.lt_of_le_of_lt (show b.natAbs ≤ 100 by omega) (by decide +kernel), fun r H2 r0 r1 xb2 src2 => ?_⟩
    refine ⟨_, _, rfl, rfl, _, rfl, by omega, by omega, ?_⟩
    have XB2 : XB s H H2 := (XB.of eH1).trans xb2
    refine for_it walk_range (fun i σ Hx => ∃ (y4 y5 : Option V) (ts : List Int), σ = [some (.ref s), some (.int n), some (.int b), some (.ref fl), y4, y5] ∧ Hx fl = some (.lst (ts.map V.int)) ∧ ts.length ≤ i ∧ (1 ≤ i → ts ≠ []) ∧ (∀ t ∈ ts, 0 ≤ t ∧ t < n) ∧ ts.Nodup ∧ XB s H Hx ∧ Sr5 Hx s (m + 4 * (100 - i))) ⟨_, _, [], rfl, xb2 _ _ fls hfl, by simp, fun z => absurd z (by omega), by simp, by simp, XB2, src2.less (by omega)⟩ (fun _ _ _ _ _ => True.intro) ?_ ?_
    · rintro i x σ _ Ha hi ⟨y4, y5, ts, rfl, hla, lt, ne, inr, nod, xba, srca⟩ ⟨rfl, hx⟩
      have hi2 : i < (1 + r).toNat := hi
      refine ⟨_, rfl, _, rfl, s, n, m + 4 * (100 - (i + 1)), rfl, srca.less (by omega), n0, fun p Hb p0 p1 xbb srcb => ?_⟩
      have hlb := xbb _ _ fls hla
      refine ⟨_, rfl, _, rfl, fl, _, rfl, .inl (SqL.of hlb), rfl, flat_ints _, _, rfl, ?_⟩
      rw [in_ints]
      by_cases hm : p ∈ ts
      · refine itf (by simp [hm]) ?_
        exact ⟨_, _, ts, rfl, hlb, by omega, (fun _ z => by rw [z] at hm; cases hm), inr, nod, xba.trans xbb, srcb⟩
      · refine itt (by simp only [decide_eq_false hm]; rfl) ?_
        refine ⟨_, rfl, .inl ⟨rfl, _, SqL.of hlb⟩, _, rfl, fl, _, _, rfl, rfl, hlb, ?_, ?_⟩
        · rw [List.length_map]
          exact Nat.lt_of_le_of_lt (show ts.length ≤ 1000 by omega) (by decide)
        refine ⟨_, _, ts ++ [p], rfl, ?_, by rw [List.length_append]; show _ + 1 ≤ _; omega, fun _ => by simp, fun g hg => ?_, ?_, (xba.trans xbb).app5 nfl, srcb.app fls⟩
        · rw [upd_same, List.map_append]
          rfl
        · rcases List.mem_append.mp hg with h | h
          · exact inr g h
          · rw [List.mem_singleton.mp h]
            exact ⟨p0, p1⟩
        · rw [List.nodup_append]
          exact ⟨nod, by simp, fun a ha b hb z => hm (by rw [← List.mem_singleton.mp hb, ← z]; exact ha)⟩
    · rintro σ Ha ⟨y4, y5, ts, rfl, hla, lt, ne, inr, nod, xba, srca⟩
      have lt : ts.length ≤ (1 + r).toNat := lt
      exact ⟨_, rfl, k fl ts _ nfl hla (ne (by show 1 ≤ (1 + r).toNat; omega)) (by omega) inr nod xba (srca.less (by omega))⟩
end

theorem seqIx {r : Int} {n : Nat} (h0 : 0 ≤ r) (h1 : r < n) (hn : n < 2 ^ 62) : seqIndex? r n = some r.toNat := by
  unfold seqIndex?
  rw [if_neg (show ¬ r < 0 by omega)]
  dsimp only
  rw [if_pos (by rw [Bool.and_eq_true, decide_eq_true_iff, decide_eq_true_iff]; omega)]
theorem erase_map (ys : List Int) (k : Nat) : (ys.map V.int).eraseIdx k = (ys.eraseIdx k).map V.int := by
  induction ys generalizing k with
  | nil => rfl
  | cons a ys ih =>
    cases k with
    | zero => rfl
    | succ k =>
      show V.int a :: (ys.map V.int).eraseIdx k = V.int a :: (ys.eraseIdx k).map V.int
      rw [ih]
theorem perm_at {α : Type} : ∀ {ys : List α} {k : Nat} (h : k < ys.length), (ys[k] :: ys.eraseIdx k).Perm ys
  | a :: ys, 0, _ => List.Perm.refl _
  | a :: ys, k + 1, h => by
    have ih := perm_at (ys := ys) (k := k) (by simpa using h)
    show ((ys[k]'(by simpa using h)) :: a :: ys.eraseIdx k).Perm (a :: ys)
    exact (List.Perm.swap _ _ _).trans (ih.cons a)
section
variable {P : Program} {w : World} {K : PySem.W.Frag} {mg : Str → Option Value} {base : Heap}
def sp_law_shuffled : Sp := fun vs H Q _ => ∃ (s l : Addr) (ts : List Int) (m : Nat), vs = [.ref s, .ref l] ∧ Sr5 H s (m + ts.length) ∧ H l = some (.lst (ts.map V.int)) ∧ l ≠ s ∧ ts.length ≤ 1000 ∧
  ∀ (q : Addr) (ys : List Int) H2, H q = none → H2 q = some (.lst (ys.map V.int)) → ys.Perm ts → XB s H H2 → Sr5 H2 s m → Q (.ref q) H2
theorem ok_law_shuffled (T : TX K mg) : FnOk P w K mg base CX0 2 T.f_law_shuffled T.fd_law_shuffled ["_law_source_here", "_law_items"] sp_law_shuffled := by
  refine T.F_law_shuffled.ok sc_law_shuffled (fun vs H Q E h => ?_) (fun cdv A outer s H vs Q E hr h => ?_)
  · obtain ⟨s, l, ts, m, rfl, _⟩ := h
    rfl
  · obtain ⟨s, l, ts, m, rfl, hs, hl, nls, ll, k⟩ := h
    refine ⟨_, (pss_cons (ps_set (i := 2) sc_law_shuffled.nd rfl (Or.inl rfl) (pe_callTy call_list_of (by rfl) T.z_list (by decide +kernel) (pa_cons (pv 1) pa_nil))) (pss_cons (ps_set (i := 3) sc_law_shuffled.nd rfl (Or.inl rfl) (pe_lst pa_nil)) (pss_cons (ps_while PassesOwn.never (pt_cmpR (r := rNeD K) (op_neD hr.units) (pv 2) (pe_lst pa_nil) (nomark _)) (pss_one (ps_expr (pe_bm PySem.F.plainAttrs_list PySem.F.slot_list_append PySem.F.type_list_append mt_append (pv 3) (pa_cons (pe_bm PySem.F.plainAttrs_list PySem.F.slot_list_pop PySem.F.type_list_pop mt_popAt (pv 2) (pa_cons (pe_call (ok_law_take T) hr rfl T.m_law_take T.F_law_take.kp T.b_law_take .nil pass0 (pa_cons (pv 0) (pa_cons (pe_callB call_len_seq (by rfl) T.z_len (by decide +kernel) (pa_cons (pv 2) pa_nil)) pa_nil))) pa_nil)) pa_nil))))) (pss_one (ps_ret (pv 3)))))), ?_⟩
    refine ⟨_, rfl, l, _, rfl, .inl (SqL.of hl), fun pl hpl => ?_⟩
    generalize hG : upd H pl _ = H1
    have e1 := exG hG hpl
    have hp1 := atG hG
    clear hG
    dsimp only [gName]
    refine ⟨slen rfl, ?_⟩
    (intro f nf; generalize hGf : upd _ f _ = H2; have eH2 := exG hGf nf; have hf := atG hGf; clear hGf)
    have nf0 : H f = none := Evl.fresh_back e1 nf
    have E2 := ext e1 eH2
    have nfs : f ≠ s := hs.ne nf0
    have nps : pl ≠ s := hs.ne hpl
    have npf : pl ≠ f := ne_of_none hp1 nf
    dsimp only [gName]
    refine ⟨fun c σ Hx => ∃ ys fs : List Int, σ = [some (.ref s), some (.ref l), some (.ref pl), some (.ref f)] ∧ Hx pl = some (.lst (ys.map V.int)) ∧ Hx f = some (.lst (fs.map V.int)) ∧ (ys ++ fs).Perm ts ∧ XB s H Hx ∧ Sr5 Hx s (m + ys.length) ∧ c = ys.length,
      ⟨_, ts, [], rfl, eH2 _ _ hp1, hf, by rw [List.append_nil], XB.of E2, hs.mono E2, rfl⟩, ?_⟩
    rintro c σ Hx ⟨ys, fs, rfl, hpx, hfx, pm, xbx, srcx, rfl⟩
    have lall : ys.length + fs.length = ts.length := by
      rw [← List.length_append]
      exact pm.length_eq
    refine ⟨_, rfl, slen rfl, ?_⟩
    (intro el nel; generalize hGel : upd _ el _ = H3; have eH3 := exG hGel nel; have hel := atG hGel; clear hGel)
    have xb3 := xbx.trans (XB.of eH3)
    refine ⟨iL ys, iL [], dp_ilist (eH3 _ _ hpx), dp_ilist hel, (sh_ilist _).ok, (sh_ilist _).ok, _, rfl, ?_⟩
    rw [eqv_ilist]
    by_cases c : ys = []
    · subst c
      exact itf (by simp) ⟨_, rfl, k f fs _ nf0 (eH3 _ _ hfx) pm xb3 (srcx.mono eH3)⟩
    refine itt (by simp [c]) ⟨_, fun _ _ h => h, ?_⟩
    have apos := List.length_pos_iff.mpr c
    have hf3 := eH3 _ _ hfx
    have hp3 := eH3 _ _ hpx
    have src3 := srcx.mono eH3
    refine ⟨_, rfl, .inl ⟨rfl, _, SqL.of hf3⟩, _, rfl, .inl ⟨rfl, _, SqL.of hp3⟩, _, rfl, _, rfl, pl, _, rfl, .inl (SqL.of hp3), s, _, m + (ys.length - 1), rfl, src3.less (by omega), ?_, ?_, fun r2 H4 r20 r21 xb4 src4 => ?_⟩
    · rw [List.length_map]
      omega
    · rw [List.length_map]
      exact Nat.lt_of_le_of_lt (show _ ≤ 1000 by omega) (by decide +kernel)
    rw [List.length_map] at r21
    have hp4 := xb4 _ _ nps hp3
    have hf4 := xb4 _ _ nfs hf3
    have ily : r2.toNat < ys.length := by omega
    refine ⟨pl, _, r2, r2.toNat, V.int ys[r2.toNat], rfl, rfl, hp4, ?_, ?_, ?_, ?_, ?_⟩
    · omega
    · omega
    · rw [List.length_map]
      exact seqIx r20 r21 (Nat.lt_of_le_of_lt (show ys.length ≤ 1000 by omega) (by decide))
    · rw [List.getElem?_map, List.getElem?_eq_getElem ily]
      rfl
    rw [erase_map]
    have hf5 : upd H4 pl (.lst ((ys.eraseIdx r2.toNat).map V.int)) f = some (.lst (fs.map V.int)) := by
      rw [upd_ne (Ne.symm npf)]
      exact hf4
    refine ⟨f, _, _, rfl, rfl, hf5, ?_, ?_⟩
    · rw [List.length_map]
      exact Nat.lt_of_le_of_lt (show fs.length ≤ 1000 by omega) (by decide)
    have le : (ys.eraseIdx r2.toNat).length = ys.length - 1 := List.length_eraseIdx_of_lt ily
    refine ⟨(ys.eraseIdx r2.toNat).length, by omega, ys.eraseIdx r2.toNat, fs ++ [ys[r2.toNat]], rfl, ?_, ?_, ?_, ((xb3.trans xb4).app5 hpl).app5 nf0, by rw [le]; exact (src4.app nps).app nfs, rfl⟩
    · rw [upd_ne npf, upd_same]
    · rw [upd_same, List.map_append]
      rfl
    · refine List.Perm.trans ?_ pm
      rw [← List.append_assoc]
      refine List.Perm.trans (List.perm_append_comm) ?_
      show ((ys[r2.toNat] :: ys.eraseIdx r2.toNat) ++ fs).Perm _
      exact (perm_at ily).append_right fs
end

/-! ### any data, read from the heap; B says where its lists may lie -/
mutual
inductive Dq (B : Addr → Prop) (H : Hp) : V → PyData → Prop
  | non : Dq B H .non .none
  | bl (b : Bool) : Dq B H (.bl b) (.bool b)
  | int (i : Int) : Dq B H (.int i) (.int i)
  | str (x : Str) : Dq B H (.str x) (.str x)
  | lst {a : Addr} {xs : List V} {ds : List PyData} : H a = some (.lst xs) → B a → DqAll B H xs ds → Dq B H (.ref a) (.list ds)
  | tup {a : Addr} {xs : List V} {ds : List PyData} : H a = some (.tup xs) → DqAll B H xs ds → Dq B H (.ref a) (.tuple ds)
  | emp {a : Addr} : H a = some (.dK []) → Dq B H (.ref a) (.dict [])
inductive DqAll (B : Addr → Prop) (H : Hp) : List V → List PyData → Prop
  | nil : DqAll B H [] []
  | cons {v : V} {vs : List V} {d : PyData} {ds : List PyData} : Dq B H v d → DqAll B H vs ds → DqAll B H (v :: vs) (d :: ds)
end
mutual
theorem Dq.to {B B2 : Addr → Prop} {H H2 : Hp} (l : ∀ a xs, B a → H a = some (.lst xs) → H2 a = some (.lst xs) ∧ B2 a) (t : ∀ a xs, H a = some (.tup xs) → H2 a = some (.tup xs)) (e0 : ∀ a, H a = some (.dK []) → H2 a = some (.dK [])) : ∀ {d : PyData} {v : V}, Dq B H v d → Dq B2 H2 v d
  | _, _, .non => .non
  | _, _, .bl b => .bl b
  | _, _, .int i => .int i
  | _, _, .str x => .str x
  | _, _, .lst h b hs => .lst (l _ _ b h).1 (l _ _ b h).2 (DqAll.to l t e0 hs)
  | _, _, .tup h hs => .tup (t _ _ h) (DqAll.to l t e0 hs)
  | _, _, .emp h => .emp (e0 _ h)
theorem DqAll.to {B B2 : Addr → Prop} {H H2 : Hp} (l : ∀ a xs, B a → H a = some (.lst xs) → H2 a = some (.lst xs) ∧ B2 a) (t : ∀ a xs, H a = some (.tup xs) → H2 a = some (.tup xs)) (e0 : ∀ a, H a = some (.dK []) → H2 a = some (.dK [])) : ∀ {ds : List PyData} {vs : List V}, DqAll B H vs ds → DqAll B2 H2 vs ds
  | _, _, .nil => .nil
  | _, _, .cons h hs => .cons (Dq.to l t e0 h) (DqAll.to l t e0 hs)
end
theorem Dq.mono {B : Addr → Prop} {H H2 : Hp} (e : Ex H H2) {d : PyData} {v : V} (h : Dq B H v d) : Dq B H2 v d := h.to (fun _ _ b h => ⟨e _ _ h, b⟩) (fun _ _ h => e _ _ h) (fun _ h => e _ _ h)
theorem DqAll.mono {B : Addr → Prop} {H H2 : Hp} (e : Ex H H2) {ds : List PyData} {vs : List V} (h : DqAll B H vs ds) : DqAll B H2 vs ds := h.to (fun _ _ b h => ⟨e _ _ h, b⟩) (fun _ _ h => e _ _ h) (fun _ h => e _ _ h)
mutual
theorem Dq.de {K : PySem.W.Frag} {B : Addr → Prop} {H : Hp} : ∀ {d : PyData} {v : V}, Dq B H v d → CG.De K H v d
  | _, _, .non => .non
  | _, _, .bl b => .bl b
  | _, _, .int i => .int i
  | _, _, .str x => .str x
  | _, _, .lst h _ hs => .lst (SqL.of h) (DqAll.de hs)
  | _, _, .tup h hs => .tup (SqT.of h) (DqAll.de hs)
  | _, _, .emp h => .emp h
theorem DqAll.de {K : PySem.W.Frag} {B : Addr → Prop} {H : Hp} : ∀ {ds : List PyData} {vs : List V}, DqAll B H vs ds → CG.DeAll K H vs ds
  | _, _, .nil => .nil
  | _, _, .cons h hs => .cons (Dq.de h) (DqAll.de hs)
end
theorem DqAll.ints {B : Addr → Prop} {H : Hp} : ∀ (is : List Int), DqAll B H (is.map V.int) (is.map PyData.int)
  | [] => .nil
  | i :: is => .cons (.int i) (DqAll.ints is)
theorem Dq.ints {B : Addr → Prop} {H : Hp} {a : Addr} {is : List Int} (h : H a = some (.tup (is.map V.int))) : Dq B H (.ref a) (iT is) := .tup h (DqAll.ints is)
/-- an int that is no bool -/
def intD : PyData → Option Int
  | .int i => some i
  | _ => none
theorem Dq.isI {K : PySem.W.Frag} {B : Addr → Prop} {H : Hp} {v : V} {d : PyData} (h : Dq B H v d) : IsI K H v (intD d) := by
  cases h with
  | int i => exact rfl
  | non => exact ⟨_, _, _, .base .non, kit_ty (r := false) (by decide +kernel), kit_ty (r := false) (by decide +kernel), rfl⟩
  | bl b => exact ⟨_, _, _, .base (.bl b), kit_ty (r := true) (by decide +kernel), kit_ty (r := true) (by decide +kernel), rfl⟩
  | str x => exact ⟨_, _, _, .base (.str x), kit_ty (r := false) (by decide +kernel), kit_ty (r := false) (by decide +kernel), rfl⟩
  | lst h _ _ => exact ⟨_, _, _, .base (.lst h), kit_ty (r := false) (by decide +kernel), kit_ty (r := false) (by decide +kernel), rfl⟩
  | tup h _ => exact ⟨_, _, _, .base (.tup h), kit_ty (r := false) (by decide +kernel), kit_ty (r := false) (by decide +kernel), rfl⟩
  | emp h => exact ⟨_, _, _, .base (.dK h), kit_ty (r := false) (by decide +kernel), kit_ty (r := false) (by decide +kernel), rfl⟩
/-- what is in a tuple -/
def tupD : PyData → Option (List PyData)
  | .tuple ds => some ds
  | _ => none
theorem Dq.isT {K : PySem.W.Frag} {B : Addr → Prop} {H : Hp} {v : V} {d : PyData} (h : Dq B H v d) : ∃ t, TyX K H v t ∧ PySem.W.kitOne K t (.type "tuple") = some (tupD d).isSome := by
  cases h with
  | int i => exact ⟨_, .base (.int i), kit_ty (r := false) (by decide +kernel)⟩
  | non => exact ⟨_, .base .non, kit_ty (r := false) (by decide +kernel)⟩
  | bl b => exact ⟨_, .base (.bl b), kit_ty (r := false) (by decide +kernel)⟩
  | str x => exact ⟨_, .base (.str x), kit_ty (r := false) (by decide +kernel)⟩
  | lst h _ _ => exact ⟨_, .base (.lst h), kit_ty (r := false) (by decide +kernel)⟩
  | tup h _ => exact ⟨_, .base (.tup h), kit_ty (r := true) (by decide +kernel)⟩
  | emp h => exact ⟨_, .base (.dK h), kit_ty (r := false) (by decide +kernel)⟩
theorem Dq.tupA {B : Addr → Prop} {H : Hp} {v : V} {d : PyData} {ds : List PyData} (h : Dq B H v d) (e : tupD d = some ds) : ∃ a xs, v = .ref a ∧ H a = some (.tup xs) ∧ DqAll B H xs ds := by
  cases h with
  | tup h hs => cases e; exact ⟨_, _, rfl, h, hs⟩
  | _ => cases e
theorem DqAll.len {B : Addr → Prop} {H : Hp} : ∀ {xs : List V} {ds : List PyData}, DqAll B H xs ds → xs.length = ds.length
  | _, _, .nil => rfl
  | _, _, .cons _ t => by rw [List.length_cons, List.length_cons, DqAll.len t]
theorem DqAll.get {B : Addr → Prop} {H : Hp} : ∀ {xs : List V} {ds : List PyData} {j : Nat} {x : V}, DqAll B H xs ds → xs[j]? = some x → ∃ d, ds[j]? = some d ∧ Dq B H x d
  | _, _, _, _, .nil, h => by simp at h
  | _, _, 0, _, .cons h _, e => ⟨_, rfl, by obtain rfl := Option.some.inj e; exact h⟩
  | _, _, j + 1, _, .cons _ t, e => DqAll.get (j := j) t (by simpa using e)
theorem dq_ints {B : Addr → Prop} {H : Hp} : ∀ {xs : List V} {ws : List PyData}, DqAll B H xs ws → (∀ w ∈ ws, ∃ i, intD w = some i) → ∃ is : List Int, ws = is.map PyData.int ∧ xs = is.map V.int
  | _, _, .nil, _ => ⟨[], rfl, rfl⟩
  | _, _, .cons h t, a => by
    obtain ⟨is, e1, e2⟩ := dq_ints t fun w hw => a w (List.mem_cons_of_mem _ hw)
    obtain ⟨i, hi⟩ := a _ List.mem_cons_self
    cases h with
    | int j => exact ⟨j :: is, by rw [e1]; rfl, by rw [e2]; rfl⟩
    | _ => cases hi
theorem ints_of : ∀ {ws : List PyData}, (∀ w ∈ ws, ∃ i, intD w = some i) → ∃ is : List Int, ws = is.map PyData.int
  | [], _ => ⟨[], rfl⟩
  | w :: ws, a => by
    obtain ⟨is, e1⟩ := ints_of fun w hw => a w (List.mem_cons_of_mem _ hw)
    obtain ⟨i, hi⟩ := a _ List.mem_cons_self
    cases w with
    | int j => exact ⟨j :: is, by rw [e1]; rfl⟩
    | _ => cases hi
theorem fm_ints (is : List Int) : (is.map PyData.int).filterMap intD = is := by
  induction is with
  | nil => rfl
  | cons i is ih => rw [List.map_cons, List.filterMap_cons, ih]; rfl
def lstD : PyData → Option (List PyData)
  | .list ds => some ds
  | _ => none
theorem Dq.isL {K : PySem.W.Frag} {B : Addr → Prop} {H : Hp} {v : V} {d : PyData} (h : Dq B H v d) : ∃ t, TyX K H v t ∧ PySem.W.kitOne K t (.type "list") = some (lstD d).isSome := by
  cases h with
  | int i => exact ⟨_, .base (.int i), kit_ty (r := false) (by decide +kernel)⟩
  | non => exact ⟨_, .base .non, kit_ty (r := false) (by decide +kernel)⟩
  | bl b => exact ⟨_, .base (.bl b), kit_ty (r := false) (by decide +kernel)⟩
  | str x => exact ⟨_, .base (.str x), kit_ty (r := false) (by decide +kernel)⟩
  | lst h _ _ => exact ⟨_, .base (.lst h), kit_ty (r := true) (by decide +kernel)⟩
  | tup h _ => exact ⟨_, .base (.tup h), kit_ty (r := false) (by decide +kernel)⟩
  | emp h => exact ⟨_, .base (.dK h), kit_ty (r := false) (by decide +kernel)⟩
theorem Dq.lstA {B : Addr → Prop} {H : Hp} {v : V} {d : PyData} {ds : List PyData} (h : Dq B H v d) (e : lstD d = some ds) : ∃ a xs, v = .ref a ∧ H a = some (.lst xs) ∧ B a ∧ DqAll B H xs ds := by
  cases h with
  | lst h b hs => cases e; exact ⟨_, _, rfl, h, b, hs⟩
  | _ => cases e
/-! ### counts as data -/
def wsum (ws xs : List Int) : Int := (List.zipWith (fun w x => w * x) ws xs).sum
def cntBad : List PyData → Nat → Option Int
  | [], _ => none
  | d :: ds, i => if atLeast (intD d) 0 = true then cntBad ds (i + 1) else some (i : Int)
def cntDue (k : Nat) (d : PyData) : Option Int := match lstD d with
  | some ds => if ds.length = k then cntBad ds 0 else some (-1)
  | none => some (-1)
def sumDue (n : Int) (ts : List Int) (p tot : Int) (cs : List Int) : Option Int := if cs.sum = tot then (if (wsum cs ts - tot * p) % n = 0 then none else some ((ts.length : Int) + 1)) else some (ts.length : Int)
def csOf (d : PyData) : List Int := ((lstD d).getD []).filterMap intD
def dueS (n : Int) (ts : List Int) (p : Int) (c : Nat) (d : PyData) : Option Int := match cntDue ts.length d with
  | some i => some i
  | none => sumDue n ts p (2 ^ c) (csOf d)
theorem cntBad_none : ∀ {ds : List PyData} {i : Nat}, cntBad ds i = none → ∃ cs : List Int, ds = cs.map PyData.int ∧ ∀ x ∈ cs, 0 ≤ x
  | [], _, _ => ⟨[], rfl, by simp⟩
  | d :: ds, i, h => by
    have h : (if atLeast (intD d) 0 = true then cntBad ds (i + 1) else some (i : Int)) = none := h
    by_cases c : atLeast (intD d) 0 = true
    · rw [if_pos c] at h
      obtain ⟨cs, rfl, h2⟩ := cntBad_none h
      cases d with
      | int j =>
        have c0 : 0 ≤ j := of_decide_eq_true c
        exact ⟨j :: cs, rfl, fun x hx => by
          rcases List.mem_cons.mp hx with rfl | hx
          · exact c0
          · exact h2 x hx⟩
      | _ => cases c
    · rw [if_neg c] at h
      cases h
theorem cnt_none {k : Nat} {d : PyData} (h : cntDue k d = none) : ∃ cs : List Int, d = .list (cs.map PyData.int) ∧ cs.length = k ∧ (∀ x ∈ cs, 0 ≤ x) ∧ csOf d = cs := by
  unfold cntDue at h
  cases d with
  | list ds =>
    replace h : (if ds.length = k then cntBad ds 0 else some (-1)) = none := h
    by_cases c : ds.length = k
    · rw [if_pos c] at h
      obtain ⟨cs, rfl, h2⟩ := cntBad_none h
      exact ⟨cs, rfl, by rw [← c, List.length_map], h2, fm_ints cs⟩
    · rw [if_neg c] at h
      cases h
  | _ => cases h
theorem Dq.intsL {B : Addr → Prop} {H : Hp} {v : V} {cs : List Int} (h : Dq B H v (.list (cs.map PyData.int))) : ∃ a, v = .ref a ∧ H a = some (.lst (cs.map V.int)) ∧ B a := by
  obtain ⟨a, xs, rfl, ha, b, hall⟩ := h.lstA (ds := cs.map PyData.int) rfl
  obtain ⟨is, e1, e2⟩ := dq_ints hall fun w hw => by
    obtain ⟨i, _, rfl⟩ := List.mem_map.mp hw
    exact ⟨i, rfl⟩
  have e3 : is = cs := by
    have := congrArg (List.filterMap intD) e1
    rw [fm_ints, fm_ints] at this
    exact this.symm
  subst e3
  subst e2
  exact ⟨a, rfl, ha, b⟩

/-- an exception with one field -/
def sp_exi (C : Addr) (f : Str) : Sp := fun vs H Q _ => ∃ (a : Addr) (x : V), vs = [.ref a, x] ∧ H a = some (exo a C none) ∧ ∀ dx, H dx = none → dx ≠ a → Q .non (upd (upd H dx (exd dx [(f, x)])) a (exo a C (some dx)))
theorem exc_made {H : Hp} {a C : Addr} {f : Str} {x : V} {E E1 : XK} (na : H a = none) (k : ∀ d H2, Ex H H2 → H2 d = some (.xd [(f, x)]) → E (.ref C) (some d) H2) :
    sp_exi C f [.ref a, x] (upd H a (exo a C none)) (fun v H2 => v = .non ∧ ∃ (d : Addr) (fs : List (Str × V)), H2 a = some (exo a C (some d)) ∧ H2 d = some (exd d fs) ∧ H d = none ∧ E (.ref C) (some d) (upd (del H2 a) d (.xd fs))) E1 := by
  refine ⟨a, x, rfl, upd_same, fun dx hd ne => ⟨rfl, dx, _, upd_same, by rw [upd_ne ne, upd_same], by rw [upd_ne ne] at hd; exact hd, k _ _ (fun c o hc => ?_) upd_same⟩⟩
  have ca : c ≠ a := ne_of_none hc na
  have cd : c ≠ dx := ne_of_none hc (by rw [upd_ne ne] at hd; exact hd)
  rw [upd_ne cd, del_ne ca, upd_ne ca, upd_ne cd, upd_ne ca]
  exact hc

section
variable {P : Program} {w : World} {K : PySem.W.Frag} {mg : Str → Option Value} {base : Heap}
theorem ok_InvalidWitness_init (T : TX K mg) : FnOk P w K mg base CX0 1 T.f_InvalidWitness_init T.fd_InvalidWitness_init ["self", "index"] (sp_exi T.C_InvalidWitness "index") := by
  refine T.F_InvalidWitness_init.ok sc_InvalidWitness_init (fun vs H Q E h => ?_) (fun cdv A outer s H vs Q E hr h => ?_)
  · obtain ⟨a, x, rfl, _⟩ := h
    rfl
  · obtain ⟨a, x, rfl, ha, k⟩ := h
    refine ⟨_, (pss_one (ps_ost (pv 0) (pv 1))), ?_⟩
    exact ⟨_, rfl, _, rfl, a, _, rfl, T.ox_InvalidWitness, T.n_InvalidWitness_index, .inl ⟨ha, fun dx n ne => k dx n ne⟩⟩
def spX_require_counts (CX : Addr) : Sp := fun vs H Q E => ∃ (B : Addr → Prop) (q : Bool × Addr) (x : V) (ts : List Int) (d : PyData), vs = [.ref q.2, x] ∧ SqH H q (ts.map V.int) ∧ Dq B H x d ∧ (cntDue ts.length d = none → ∀ H2, Ex H H2 → Q .non H2) ∧ (∀ i, cntDue ts.length d = some i → ∀ dd H2, Ex H H2 → H2 dd = some (.xd [("index", .int i)]) → E (.ref CX) (some dd) H2)
theorem okX_require_counts (T : TX K mg) : FnOk P w K mg base (L2.CX P w) 3 T.f_require_counts T.fd_require_counts ["targets", "counts"] (spX_require_counts T.C_InvalidWitness) := by
  refine T.F_require_counts.okX sc_require_counts (fun vs H Q E h => ?_) (fun cdv A outer s H vs Q E hr h => ?_)
  · obtain ⟨B, q, x, ts, d, rfl, _⟩ := h
    rfl
  · obtain ⟨B, q, x, ts, d, rfl, hq, dq, k1, k2⟩ := h
    refine ⟨_, (pss_cons (ps_if (PW.pt (pw_or (pt_not (pt_val (pe_callB call_isi (by rfl) T.z_isinstance (by decide +kernel) (pa_cons (pv 1) (pa_cons (pe_bltn (v := .ty "list") rfl T.z_list (by decide +kernel) rfl) pa_nil))))) (pw_or1 (pt_cmpR op_ne (pe_callB call_len_seq (by rfl) T.z_len (by decide +kernel) (pa_cons (pv 1) pa_nil)) (pe_callB call_len_seq (by rfl) T.z_len (by decide +kernel) (pa_cons (pv 0) pa_nil)) (nomark _))))) (pss_one (ps_raise rfl (takes_of rfl rfl rfl rfl) (pmk_oex T.ox_InvalidWitness T.i_InvalidWitness T.ti_InvalidWitness (ok_InvalidWitness_init T) (hr.mono (by decide)) T.b_InvalidWitness_init .nil pass0 rfl T.m_InvalidWitness (pa_cons (pe_un un_neg pe_int) pa_nil)))) pss_nil) (pss_one (ps_for (passes_of rfl) rfl (CE.pi_e rfl T.z_enumerate (pa_cons (pv 1) pa_nil)) (pg_tup rfl (pgs_cons (pg_name (i := 2) sc_require_counts.nd rfl (Or.inl rfl)) (pgs_cons (pg_name (i := 3) sc_require_counts.nd rfl (Or.inl rfl)) pgs_nil))) (pss_one (ps_if (pt_not (pt_val (pe_call (ok_is_at_least T) hr rfl T.m_is_at_least T.F_is_at_least.kp T.b_is_at_least .nil pass0 (pa_cons (pv 3) (pa_cons pe_int pa_nil))))) (pss_one (ps_raise rfl (takes_of rfl rfl rfl rfl) (pmk_oex T.ox_InvalidWitness T.i_InvalidWitness T.ti_InvalidWitness (ok_InvalidWitness_init T) (hr.mono (by decide)) T.b_InvalidWitness_init .nil pass0 rfl T.m_InvalidWitness (pa_cons (pv 2) pa_nil)))) pss_nil))))), ?_⟩
    obtain ⟨ty, hty, hkit⟩ := dq.isL
    refine ⟨_, rfl, _, _, _, _, _, rfl, .ty _, hty, hkit, _, rfl, ?_⟩
    cases el : lstD d with
    | none =>
      refine itt rfl ?_
      refine ⟨_, rfl, by show 1 ≤ 1000; decide, fun ea na => ?_⟩
      exact exc_made na fun dd H4 e4 hd => k2 (-1) (by unfold cntDue; rw [el]) dd H4 e4 hd
    | some ds =>
    refine itf rfl ?_
    obtain ⟨xa, xs, rfl, hxa, _, dall⟩ := dq.lstA el
    have lxs := dall.len
    refine ⟨_, rfl, xa, _, rfl, .inl (SqL.of hxa), _, rfl, q.2, _, rfl, sq_or hq, rfl, _, rfl, ?_⟩
    have ed : cntDue ts.length d = if ds.length = ts.length then cntBad ds 0 else some (-1) := by unfold cntDue; rw [el]
    rw [ed] at k1 k2
    by_cases c : ds.length = ts.length
    rotate_left
    · rw [if_neg c] at k1 k2
      refine itt (by rw [lxs, List.length_map]; simp; omega) ?_
      refine ⟨_, rfl, by show 1 ≤ 1000; decide, fun ea na => ?_⟩
      exact exc_made na fun dd H4 e4 hd => k2 (-1) rfl dd H4 e4 hd
    rw [if_pos c] at k1 k2
    refine itf (by rw [lxs, List.length_map, c]; simp) ?_
    dsimp only [tNext]
    refine ⟨_, rfl, (false, xa), rfl, ⟨_, sqL hxa⟩, ?_⟩
    refine for_it (CE.walk_e (xs := xs)) (fun i σ Hx => (∃ y2 y3 : Option V, σ = [some (.ref q.2), some (.ref xa), y2, y3]) ∧ Ex H Hx ∧ cntBad ds 0 = cntBad (ds.drop i) i) ⟨⟨_, _, rfl⟩, exr, rfl⟩ (fun i σ Hx _ p => sqL (p.2.1 _ _ hxa)) ?_ ?_
    · rintro i x0 σ Ha Hb hi ⟨⟨y2, y3, rfl⟩, ex, hd⟩ ⟨Ta, x1, x2, rfl, hT, rfl, hx1, hx2⟩
      cases hx1
      obtain ⟨dw, hdw, qw0⟩ := dall.get hx2
      have eT := exn (o := .tup [.int (i : Nat), x2]) hT
      have E3 := ext ex eT
      have qw := qw0.mono E3
      have il := (List.getElem?_eq_some_iff.mp hdw).1
      have edr : ds.drop i = dw :: ds.drop (i + 1) := by
        rw [List.drop_eq_getElem_cons il]
        rw [List.getElem?_eq_getElem il] at hdw
        rw [Option.some.inj hdw]
      rw [edr] at hd
      replace hd : cntBad ds 0 = if atLeast (intD dw) 0 = true then cntBad (ds.drop (i + 1)) (i + 1) else some (i : Int) := hd
      refine ⟨Ta, _, rfl, SqT.of upd_same, rfl, _, _, rfl, _, _, rfl, rfl, ?_⟩
      refine ⟨_, rfl, _, intD dw, 0, rfl, qw.isI, _, rfl, ?_⟩
      by_cases ca : atLeast (intD dw) 0 = true
      · rw [if_pos ca] at hd
        exact itf (by rw [ca]; rfl) ⟨⟨_, _, rfl⟩, E3, hd⟩
      · rw [if_neg ca] at hd
        refine itt (by rw [Bool.eq_false_iff.mpr ca]; rfl) ?_
        refine ⟨_, rfl, by show 1 ≤ 1000; decide, fun ea na => ?_⟩
        exact exc_made na fun dd H4 e4 hdd => k2 (i : Int) hd dd H4 (ext E3 e4) hdd
    · rintro σ Hx ⟨⟨y2, y3, rfl⟩, ex, hd⟩
      rw [lxs, List.drop_length] at hd
      exact k1 hd _ ex
def spX_require_sum (CX : Addr) : Sp := fun vs H Q E => ∃ (n p tot : Int) (q : Bool × Addr) (c : Addr) (ts cs : List Int), vs = [.int n, .ref q.2, .int p, .ref c, .int tot] ∧ 1 ≤ n ∧ SqH H q (ts.map V.int) ∧ H c = some (.lst (cs.map V.int)) ∧ cs.length = ts.length ∧ ts.length ≤ 100 ∧ (∀ x ∈ cs, x.natAbs < 2 ^ 5000) ∧ (∀ x ∈ ts, x.natAbs < 2 ^ 5000) ∧ tot.natAbs < 2 ^ 5000 ∧ p.natAbs < 2 ^ 5000 ∧
  (sumDue n ts p tot cs = none → ∀ H2, Ex H H2 → Q .non H2) ∧ (∀ i, sumDue n ts p tot cs = some i → ∀ dd H2, Ex H H2 → H2 dd = some (.xd [("index", .int i)]) → E (.ref CX) (some dd) H2)
theorem okX_require_sum (T : TX K mg) : FnOk P w K mg base (L2.CX P w) 3 T.f_require_sum T.fd_require_sum ["size", "targets", "place", "counts", "total"] (spX_require_sum T.C_InvalidWitness) := by
  refine T.F_require_sum.okX sc_require_sum (fun vs H Q E h => ?_) (fun cdv A outer s H vs Q E hr h => ?_)
  · obtain ⟨n, p, tot, q, c, ts, cs, rfl, _⟩ := h
    rfl
  · obtain ⟨n, p, tot, q, c, ts, cs, rfl, n1, hq, hc, l, l100, cB, bt, btot, bp, k1, k2⟩ := h
    refine ⟨_, (pss_cons (ps_if (pt_cmpR op_ne (pe_callB (cr_sum rfl) (by rfl) T.z_sum (by decide +kernel) (pa_cons (pv 3) pa_nil)) (pv 4) (nomark _)) (pss_one (ps_raise rfl (takes_of rfl rfl rfl rfl) (pmk_oex T.ox_InvalidWitness T.i_InvalidWitness T.ti_InvalidWitness (ok_InvalidWitness_init T) (hr.mono (by decide)) T.b_InvalidWitness_init .nil pass0 rfl T.m_InvalidWitness (pa_cons (pe_callB call_len_seq (by rfl) T.z_len (by decide +kernel) (pa_cons (pv 1) pa_nil)) pa_nil)))) pss_nil) (pss_cons (ps_set (i := 5) sc_require_sum.nd rfl (Or.inl rfl) (pe_callB (cr_sum rfl) (by rfl) T.z_sum (by decide +kernel) (pa_cons (pe_lc (own := [("count", 6), ("target", 7)]) (g := (gTup K 2 (gCons (gName 6) (gCons (gName 7) gNil)))) rfl sc_require_sum.nd (pi_or (CZ.pi_z2s (fl := [false, false]) rfl (by rfl) T.z_zip (pa_cons (pv 3) (pa_cons (pv 1) pa_nil))) (CZ.pi_z2s (fl := [false, true]) rfl (by rfl) T.z_zip (pa_cons (pv 3) (pa_cons (pv 1) pa_nil)))) (blkOk_by (N := N_require_sum) (sc := defScope s_require_sum) (by decide +kernel)) (fun _ _ _ _ _ => (pg_tup rfl (pgs_cons (pg_name (i := 6) sc_require_sum.nd rfl (Or.inl rfl)) (pgs_cons (pg_name (i := 7) sc_require_sum.nd rfl (Or.inl rfl)) pgs_nil)))) (fun _ _ _ _ _ => pts_nil) (fun _ _ _ _ _ => (pe_op op_mulI (pv 6) (pv 7)))) pa_nil))) (pss_one (ps_if (pt_cmpR op_ne (pe_op op_mod (pe_op op_sub (pv 5) (pe_op op_mulI (pv 4) (pv 2))) (pv 0)) pe_int (nomark _)) (pss_one (ps_raise rfl (takes_of rfl rfl rfl rfl) (pmk_oex T.ox_InvalidWitness T.i_InvalidWitness T.ti_InvalidWitness (ok_InvalidWitness_init T) (hr.mono (by decide)) T.b_InvalidWitness_init .nil pass0 rfl T.m_InvalidWitness (pa_cons (pe_op op_add (pe_callB call_len_seq (by rfl) T.z_len (by decide +kernel) (pa_cons (pv 1) pa_nil)) pe_int) pa_nil)))) pss_nil)))), ?_⟩
    refine ⟨_, rfl, c, cs, rfl, SqL.of hc, _, rfl, rfl, _, rfl, ?_⟩
    by_cases c1 : cs.sum = tot
    rotate_left
    · refine itt (by show (!decide (V.int cs.sum = V.int tot)) = true; rw [decide_eq_false (fun z => c1 (by injection z))]; rfl) ?_
      refine ⟨_, rfl, q.2, _, rfl, sq_or hq, by show 1 ≤ 1000; decide, fun ea na => ?_⟩
      rw [List.length_map]
      exact exc_made na fun dd H4 e4 hdd => k2 (ts.length : Int) (by unfold sumDue; rw [if_neg c1]) dd H4 e4 hdd
    refine itf (by rw [c1]; simp) ?_
    dsimp only [tNext]
    have sz : ∀ H2, Ex H H2 → CZ.SqK (cxOf (CX P w) P w K mg base N_require_sum "require_sum" (defScope s_require_sum) T.f_require_sum cdv A outer s H E).K H2 (q.1, q.2) (ts.map V.int) := fun H2 e2 => by
      obtain ⟨qb, qa⟩ := q
      cases qb with
      | false => exact sqL (e2 _ _ hq)
      | true => exact sqT (e2 _ _ hq)
    have hor : ∀ {F : List Bool → Prop}, F [false, q.1] → F [false, false] ∨ F [false, true] := fun {F} h => by
      obtain ⟨qb, qa⟩ := q
      cases qb with
      | false => exact .inl h
      | true => exact .inr h
    refine hor (F := fun fl => CZ.iZ _ fl _ _ _ _) ?_
    refine ⟨_, rfl, _, rfl, [c, q.2], rfl, rfl, all2 (sqL hc) (sz H exr), fun D hD => ?_⟩
    refine lc_vals (CZ.walk_rows (xss := [cs.map V.int, ts.map V.int]) (n := ts.length) (lens2 (by rw [List.length_map, l]) (by rw [List.length_map]))) ((List.zipWith (fun w x => w * x) cs ts).map V.int) (by rw [List.length_map, List.length_zipWith, l, Nat.min_self]) (by omega) hD (fun H3 e => .cons (sqL (e _ _ hc)) (.cons (sz _ e) .nil)) ?_ (gmono_tup (gmono_cons gmono_name (gmono_cons gmono_name gmono_nil))) ?_
    · intro j y H6 H7 R hj e yy kk
      obtain ⟨Tb, p, d, rfl, hTb, rfl, hp, hdd⟩ := yints2 yy
      refine ⟨Tb, _, rfl, SqT.of upd_same, rfl, _, _, rfl, _, _, rfl, rfl, ?_⟩
      refine ⟨rfl, _, rfl, _, rfl, _, _, rfl, rfl, (wide_mul (cB p (List.mem_of_getElem? hp)) (bt d (List.mem_of_getElem? hdd)) (by decide) (by decide) (by decide)).ok, ?_⟩
      refine kk _ _ (exn hTb) ?_
      rw [List.getElem?_map, List.getElem?_zipWith, hp, hdd]
      rfl
    · intro H3 e3 hD3
      refine ⟨D, _, rfl, SqL.of hD3, ?_⟩
      dsimp only [gName]
      refine ⟨_, rfl, _, rfl, _, rfl, _, _, rfl, rfl, (wide_mul btot bp (by decide) (by decide) (by decide)).ok, _, _, rfl, rfl, _, rfl, _, _, rfl, rfl, (by omega), rfl, _, rfl, ?_⟩
      by_cases c2 : (wsum cs ts - tot * p) % n = 0
      · refine itf ?_ ?_
        · show (!decide (V.int ((wsum cs ts - tot * p) % n) = V.int 0)) = false
          rw [c2]
          simp
        · exact k1 (by unfold sumDue; rw [if_pos c1, if_pos c2]) _ e3
      · refine itt ?_ ?_
        · show (!decide (V.int ((wsum cs ts - tot * p) % n) = V.int 0)) = true
          rw [decide_eq_false (fun z => c2 (by injection z))]
          rfl
        · refine ⟨_, rfl, q.2, _, rfl, sq_or (SqH.mono e3 hq), _, _, rfl, rfl, by show 1 ≤ 1000; decide, fun ea na => ?_⟩
          rw [List.length_map]
          exact exc_made na fun dd H4 e4 hdd => k2 ((ts.length : Int) + 1) (by unfold sumDue; rw [if_pos c1, if_neg c2]) dd H4 (ext e3 e4) hdd
def spX_check_sum (CX : Addr) : Sp := fun vs H Q E => ∃ (B : Addr → Prop) (n p : Int) (c : Nat) (q : Bool × Addr) (x : V) (ts : List Int) (d : PyData), vs = [.int n, .ref q.2, .int p, .int (c : Int), x] ∧ 1 ≤ n ∧ 0 ≤ p ∧ p < n ∧ n.natAbs < 2 ^ 4000 ∧ c ≤ 1000 ∧ SqH H q (ts.map V.int) ∧ ts ≠ [] ∧ ts.length ≤ 100 ∧ (∀ t ∈ ts, 0 ≤ t ∧ t < n) ∧ ts.Nodup ∧ Dq B H x d ∧ (∀ cs : List Int, d = .list (cs.map PyData.int) → ∀ x ∈ cs, x.natAbs < 2 ^ 5000) ∧
  (dueS n ts p c d = none → ∀ H2, Ex H H2 → Q .non H2) ∧ (∀ i, dueS n ts p c d = some i → ∀ dd H2, Ex H H2 → H2 dd = some (.xd [("index", .int i)]) → E (.ref CX) (some dd) H2)
theorem okX_check_sum (T : TX K mg) : FnOk P w K mg base (L2.CX P w) 5 T.f_check_sum T.fd_check_sum ["size", "targets", "place", "calls", "counts"] (spX_check_sum T.C_InvalidWitness) := by
  refine T.F_check_sum.okX sc_check_sum (fun vs H Q E h => ?_) (fun cdv A outer s H vs Q E hr h => ?_)
  · obtain ⟨B, n, p, c, q, x, ts, d, rfl, _⟩ := h
    rfl
  · obtain ⟨B, n, p, c, q, x, ts, d, rfl, n1, p0, p1, nB, c1, hq, ne, l100, inr, nod, dq, bd, k1, k2⟩ := h
    refine ⟨_, (pss_cons (ps_expr (pe_call (ok_require_places T) hr rfl T.m_require_places T.F_require_places.kp T.b_require_places .nil pass0 (pa_cons (pv 0) (pa_cons (pv 1) pa_nil)))) (pss_cons (ps_expr (pe_call (ok_require_place T) (hr.mono (by decide)) rfl T.m_require_place T.F_require_place.kp T.b_require_place .nil pass0 (pa_cons (pv 0) (pa_cons (pv 2) (pa_cons pe_str pa_nil))))) (pss_cons (ps_expr (pe_call (ok_require_at_least T) (hr.mono (by decide)) rfl T.m_require_at_least T.F_require_at_least.kp T.b_require_at_least .nil pass0 (pa_cons (pv 3) (pa_cons pe_int (pa_cons pe_str pa_nil))))) (pss_cons (ps_expr (pe_call (ok_require_limit T) (hr.mono (by decide)) rfl T.m_require_limit T.F_require_limit.kp T.b_require_limit .nil pass0 (pa_cons (pv 3) (pa_cons (pe_glob (v := .int 1000) rfl T.c_MAX_CHECKED_CALLS ⟨_, rfl⟩) pa_nil)))) (pss_cons (ps_expr (pe_call (okX_require_counts T) (hr.mono (by decide)) rfl T.m_require_counts T.F_require_counts.kp T.b_require_counts .nil (passes_call (takes_of rfl rfl rfl rfl) (fun _ _ _ _ h => h)) (pa_cons (pv 1) (pa_cons (pv 4) pa_nil)))) (pss_one (ps_expr (pe_call (okX_require_sum T) (hr.mono (by decide)) rfl T.m_require_sum T.F_require_sum.kp T.b_require_sum .nil (passes_call (takes_of rfl rfl rfl rfl) (fun _ _ _ _ h => h)) (pa_cons (pv 0) (pa_cons (pv 1) (pa_cons (pv 2) (pa_cons (pv 4) (pa_cons (pe_op op_shlW pe_int (pv 3)) pa_nil))))))))))))), ?_⟩
    refine ⟨_, rfl, _, rfl, n, q, ts, rfl, n1, hq, ne, by omega, inr, nod, fun H1 e1 => ?_⟩
    refine ⟨_, rfl, _, rfl, n, p, _, rfl, p0, p1, ?_⟩
    refine ⟨_, rfl, c, 0, _, rfl, by omega, ?_⟩
    refine ⟨_, rfl, c, 1000, rfl, by omega, ?_⟩
    refine ⟨_, rfl, _, rfl, B, q, x, ts, d, rfl, hq.mono e1, dq.mono e1, fun hn H2 e2 => ?_, fun i hi dd H2 e2 hdd => ?_⟩
    · obtain ⟨cs, rfl, lc, pos, ecs⟩ := cnt_none hn
      obtain ⟨a, rfl, ha, _⟩ := dq.intsL
      have E2 := ext e1 e2
      have bn : ∀ x : Int, 0 ≤ x → x < n → x.natAbs < 2 ^ 5000 := fun x h0 h1 => Nat.lt_of_lt_of_le (show x.natAbs < 2 ^ 4000 by omega) (Nat.pow_le_pow_right (by decide) (by decide))
      have p2 : (2 : Int) ^ c ≤ 2 ^ 1000 := pow2_le c1
      have b2 : ((2 : Int) ^ c).natAbs < 2 ^ 5000 := by
        have h0 : (0 : Int) < 2 ^ c := Int.pow_pos (by decide)
        have h4 : ((2 : Int) ^ c).natAbs ≤ 2 ^ 1000 := by
          have : ((2 ^ 1000 : Nat) : Int) = (2 : Int) ^ 1000 := by simp
          omega
        exact Nat.lt_of_le_of_lt h4 (Nat.pow_lt_pow_right (by decide) (by decide))
      have ed : dueS n ts p c (.list (cs.map PyData.int)) = sumDue n ts p (2 ^ c) cs := by
        unfold dueS
        rw [hn, ecs]
      rw [ed] at k1 k2
      refine ⟨_, rfl, _, rfl, _, rfl, _, rfl, _, rfl, _, _, rfl, rfl, shl_ok (n := 1) (by decide) (by omega), n, p, 2 ^ c, q, a, ts, cs, by dsimp only; rw [Int.one_mul, Int.toNat_natCast]; rfl, n1, hq.mono E2, E2 _ _ ha, lc, l100, bd cs rfl, fun x hx => bn x (inr x hx).1 (inr x hx).2, b2, bn p p0 p1, fun h H3 e3 => k1 h _ (ext E2 e3), fun i h dd H3 e3 hdd => k2 i h dd _ (ext E2 e3) hdd⟩
    · exact k2 i (by unfold dueS; rw [hi]) dd H2 (ext e1 e2) hdd
end

section
variable {P : Program} {w : World} {K : PySem.W.Frag} {mg : Str → Option Value} {base : Heap}
def sp_require_counts : Sp := fun vs H Q _ => ∃ (q : Bool × Addr) (c : Addr) (ts : List Int) (cs : List Int), vs = [.ref q.2, .ref c] ∧ SqH H q (ts.map V.int) ∧ H c = some (.lst (cs.map V.int)) ∧ cs.length = ts.length ∧ (∀ x ∈ cs, 0 ≤ x) ∧ ∀ H2, Ex H H2 → Q .non H2
theorem ok_require_counts (T : TX K mg) : FnOk P w K mg base CX0 3 T.f_require_counts T.fd_require_counts ["targets", "counts"] sp_require_counts := by
  refine T.F_require_counts.ok sc_require_counts (fun vs H Q E h => ?_) (fun cdv A outer s H vs Q E hr h => ?_)
  · obtain ⟨q, c, ts, cs, rfl, _⟩ := h
    rfl
  · obtain ⟨q, c, ts, cs, rfl, hq, hc, l, pos, k⟩ := h
    refine ⟨_, (pss_cons (ps_if (PW.pt (pw_or (pt_not (pt_val (pe_callB call_isi (by rfl) T.z_isinstance (by decide +kernel) (pa_cons (pv 1) (pa_cons (pe_bltn (v := .ty "list") rfl T.z_list (by decide +kernel) rfl) pa_nil))))) (pw_or1 (pt_cmpR op_ne (pe_callB call_len_seq (by rfl) T.z_len (by decide +kernel) (pa_cons (pv 1) pa_nil)) (pe_callB call_len_seq (by rfl) T.z_len (by decide +kernel) (pa_cons (pv 0) pa_nil)) (nomark _))))) pss_never pss_nil) (pss_one (ps_for PassesOwn.never rfl (CE.pi_e rfl T.z_enumerate (pa_cons (pv 1) pa_nil)) (pg_tup rfl (pgs_cons (pg_name (i := 2) sc_require_counts.nd rfl (Or.inl rfl)) (pgs_cons (pg_name (i := 3) sc_require_counts.nd rfl (Or.inl rfl)) pgs_nil))) (pss_one (ps_if (pt_not (pt_val (pe_call (ok_is_at_least T) hr rfl T.m_is_at_least T.F_is_at_least.kp T.b_is_at_least .nil pass0 (pa_cons (pv 3) (pa_cons pe_int pa_nil))))) pss_never pss_nil))))), ?_⟩
    refine ⟨_, rfl, _, _, _, _, true, rfl, .ty _, .base (.lst hc), kit_ty (by decide +kernel), _, rfl, itf rfl ?_⟩
    obtain ⟨b, a⟩ := q
    refine ⟨_, rfl, c, _, rfl, .inl (SqL.of hc), _, rfl, a, _, rfl, sq_or hq, rfl, _, rfl, itf (by rw [List.length_map, List.length_map, l]; simp) ?_⟩
    refine ⟨_, rfl, (false, c), rfl, ⟨_, (show SqH H (false, c) _ from hc).sq⟩, ?_⟩
    refine for_it (CE.walk_e (xs := cs.map V.int)) (fun i σ H2 => ∃ (y2 y3 : Option V), σ = [some (.ref a), some (.ref c), y2, y3] ∧ Ex H H2) ⟨_, _, rfl, exr⟩ (fun i σ H2 _ ⟨_, _, _, e⟩ => (show SqH H2 (false, c) _ from e _ _ hc).sq) ?_ (fun σ H2 ⟨_, _, e, e2⟩ => by subst e; exact k _ e2)
    rintro i x σ H2 H3 hi ⟨y2, y3, rfl, e2⟩ yy
    obtain ⟨Ta, x1, x2, rfl, hT, rfl, hx1, hx2⟩ := yy
    cases hx1
    obtain ⟨t, ht, rfl⟩ := map_get hx2
    have t0 := pos t (List.mem_of_getElem? ht)
    have e4 := exn (o := .tup [.int (i : Nat), .int t]) hT
    refine ⟨Ta, _, rfl, SqT.of upd_same, rfl, _, _, rfl, _, _, rfl, rfl, ?_⟩
    refine ⟨_, rfl, _, some t, 0, rfl, rfl, _, rfl, itf ?_ ⟨_, _, rfl, ext e2 e4⟩⟩
    show (!decide (0 ≤ t)) = false
    rw [decide_eq_true t0]
    rfl
def sp_require_sum : Sp := fun vs H Q _ => ∃ (n p tot : Int) (a c : Addr) (ts : List Int) (cs : List Int), vs = [.int n, .ref a, .int p, .ref c, .int tot] ∧ 1 ≤ n ∧ H a = some (.lst (ts.map V.int)) ∧ H c = some (.lst (cs.map V.int)) ∧ cs.length = ts.length ∧ ts.length ≤ 100 ∧ (∀ x ∈ cs, x.natAbs < 2 ^ 5000) ∧ (∀ x ∈ ts, x.natAbs < 2 ^ 5000) ∧ tot.natAbs < 2 ^ 5000 ∧ p.natAbs < 2 ^ 5000 ∧ cs.sum = tot ∧ n ∣ wsum cs ts - tot * p ∧ ∀ H2, Ex H H2 → Q .non H2
theorem ok_require_sum (T : TX K mg) : FnOk P w K mg base CX0 3 T.f_require_sum T.fd_require_sum ["size", "targets", "place", "counts", "total"] sp_require_sum := by
  refine T.F_require_sum.ok sc_require_sum (fun vs H Q E h => ?_) (fun cdv A outer s H vs Q E hr h => ?_)
  · obtain ⟨n, p, tot, a, c, ts, cs, rfl, _⟩ := h
    rfl
  · obtain ⟨n, p, tot, a, c, ts, cs, rfl, n1, ha, hc, l, l100, bc, bt, btot, bp, esum, dv, k⟩ := h
    refine ⟨_, (pss_cons (ps_if (pt_cmpR op_ne (pe_callB (cr_sum rfl) (by rfl) T.z_sum (by decide +kernel) (pa_cons (pv 3) pa_nil)) (pv 4) (nomark _)) pss_never pss_nil) (pss_cons (ps_set (i := 5) sc_require_sum.nd rfl (Or.inl rfl) (pe_callB (cr_sum rfl) (by rfl) T.z_sum (by decide +kernel) (pa_cons (pe_lc (own := [("count", 6), ("target", 7)]) (g := (gTup K 2 (gCons (gName 6) (gCons (gName 7) gNil)))) rfl sc_require_sum.nd (pi_or (CZ.pi_z2s (fl := [false, false]) rfl (by rfl) T.z_zip (pa_cons (pv 3) (pa_cons (pv 1) pa_nil))) (CZ.pi_z2s (fl := [false, true]) rfl (by rfl) T.z_zip (pa_cons (pv 3) (pa_cons (pv 1) pa_nil)))) (blkOk_by (N := N_require_sum) (sc := defScope s_require_sum) (by decide +kernel)) (fun _ _ _ _ _ => (pg_tup rfl (pgs_cons (pg_name (i := 6) sc_require_sum.nd rfl (Or.inl rfl)) (pgs_cons (pg_name (i := 7) sc_require_sum.nd rfl (Or.inl rfl)) pgs_nil)))) (fun _ _ _ _ _ => pts_nil) (fun _ _ _ _ _ => (pe_op op_mulI (pv 6) (pv 7)))) pa_nil))) (pss_one (ps_if (pt_cmpR op_ne (pe_op op_mod (pe_op op_sub (pv 5) (pe_op op_mulI (pv 4) (pv 2))) (pv 0)) pe_int (nomark _)) pss_never pss_nil)))), ?_⟩
    have cB : ∀ x ∈ cs, x.natAbs < 2 ^ 5000 := bc
    refine ⟨_, rfl, c, cs, rfl, SqL.of hc, _, rfl, rfl, _, rfl, itf (by rw [esum]; simp) ?_⟩
    refine .inl ⟨_, rfl, _, rfl, [c, a], rfl, rfl, all2 (sqL hc) (sqL ha), fun D hD => ?_⟩
    refine lc_vals (CZ.walk_rows (xss := [cs.map V.int, ts.map V.int]) (n := ts.length) (lens2 (by rw [List.length_map, l]) (by rw [List.length_map]))) ((List.zipWith (fun w x => w * x) cs ts).map V.int) (by rw [List.length_map, List.length_zipWith, l, Nat.min_self]) (by omega) hD (fun H3 e => .cons (sqL (e _ _ hc)) (.cons (sqL (e _ _ ha)) .nil)) ?_ (gmono_tup (gmono_cons gmono_name (gmono_cons gmono_name gmono_nil))) ?_
    · intro j y H6 H7 R hj e yy kk
      obtain ⟨Tb, p, d, rfl, hTb, rfl, hp, hdd⟩ := yints2 yy
      refine ⟨Tb, _, rfl, SqT.of upd_same, rfl, _, _, rfl, _, _, rfl, rfl, ?_⟩
      refine ⟨rfl, _, rfl, _, rfl, _, _, rfl, rfl, (wide_mul (cB p (List.mem_of_getElem? hp)) (bt d (List.mem_of_getElem? hdd)) (by decide) (by decide) (by decide)).ok, ?_⟩
      refine kk _ _ (exn hTb) ?_
      rw [List.getElem?_map, List.getElem?_zipWith, hp, hdd]
      rfl
    · intro H3 e3 hD3
      refine ⟨D, _, rfl, SqL.of hD3, ?_⟩
      dsimp only [gName]
      refine ⟨_, rfl, _, rfl, _, rfl, _, _, rfl, rfl, (wide_mul btot bp (by decide) (by decide) (by decide)).ok, _, _, rfl, rfl, _, rfl, _, _, rfl, rfl, (by omega), rfl, _, rfl, itf ?_ (k _ e3)⟩
      have : ((List.zipWith (fun w x => w * x) cs ts).sum - tot * p) % n = 0 := Int.emod_eq_zero_of_dvd dv
      show (!decide (V.int (((List.zipWith (fun w x => w * x) cs ts).sum - tot * p) % n) = V.int 0)) = false
      rw [this]
      simp
def sp_check_sum : Sp := fun vs H Q _ => ∃ (n p : Int) (d : Nat) (a c : Addr) (ts cs : List Int), vs = [.int n, .ref a, .int p, .int d, .ref c] ∧ 1 ≤ n ∧ 0 ≤ p ∧ p < n ∧ n.natAbs < 2 ^ 4000 ∧ d ≤ 1000 ∧ H a = some (.lst (ts.map V.int)) ∧ H c = some (.lst (cs.map V.int)) ∧ cs.length = ts.length ∧ ts ≠ [] ∧ ts.length ≤ 100 ∧ (∀ t ∈ ts, 0 ≤ t ∧ t < n) ∧ ts.Nodup ∧ (∀ x ∈ cs, 0 ≤ x ∧ x ≤ 2 ^ d) ∧ cs.sum = 2 ^ d ∧ n ∣ wsum cs ts - 2 ^ d * p ∧ ∀ H2, Ex H H2 → Q .non H2
theorem ok_check_sum (T : TX K mg) : FnOk P w K mg base CX0 5 T.f_check_sum T.fd_check_sum ["size", "targets", "place", "calls", "counts"] sp_check_sum := by
  refine T.F_check_sum.ok sc_check_sum (fun vs H Q E h => ?_) (fun cdv A outer s H vs Q E hr h => ?_)
  · obtain ⟨n, p, d, a, c, ts, cs, rfl, _⟩ := h
    rfl
  · obtain ⟨n, p, d, a, c, ts, cs, rfl, n1, p0, p1, nB, d1, ha, hc, l, ne, l100, inr, nod, pos, esum, dv, k⟩ := h
    refine ⟨_, (pss_cons (ps_expr (pe_call (ok_require_places T) hr rfl T.m_require_places T.F_require_places.kp T.b_require_places .nil pass0 (pa_cons (pv 0) (pa_cons (pv 1) pa_nil)))) (pss_cons (ps_expr (pe_call (ok_require_place T) (hr.mono (by decide)) rfl T.m_require_place T.F_require_place.kp T.b_require_place .nil pass0 (pa_cons (pv 0) (pa_cons (pv 2) (pa_cons pe_str pa_nil))))) (pss_cons (ps_expr (pe_call (ok_require_at_least T) (hr.mono (by decide)) rfl T.m_require_at_least T.F_require_at_least.kp T.b_require_at_least .nil pass0 (pa_cons (pv 3) (pa_cons pe_int (pa_cons pe_str pa_nil))))) (pss_cons (ps_expr (pe_call (ok_require_limit T) (hr.mono (by decide)) rfl T.m_require_limit T.F_require_limit.kp T.b_require_limit .nil pass0 (pa_cons (pv 3) (pa_cons (pe_glob (v := .int 1000) rfl T.c_MAX_CHECKED_CALLS ⟨_, rfl⟩) pa_nil)))) (pss_cons (ps_expr (pe_call (ok_require_counts T) (hr.mono (by decide)) rfl T.m_require_counts T.F_require_counts.kp T.b_require_counts .nil pass0 (pa_cons (pv 1) (pa_cons (pv 4) pa_nil)))) (pss_one (ps_expr (pe_call (ok_require_sum T) (hr.mono (by decide)) rfl T.m_require_sum T.F_require_sum.kp T.b_require_sum .nil pass0 (pa_cons (pv 0) (pa_cons (pv 1) (pa_cons (pv 2) (pa_cons (pv 4) (pa_cons (pe_op op_shlW pe_int (pv 3)) pa_nil))))))))))))), ?_⟩
    refine ⟨_, rfl, _, rfl, n, (false, a), ts, rfl, n1, ha, ne, by omega, inr, nod, fun H1 e1 => ?_⟩
    refine ⟨_, rfl, _, rfl, n, p, _, rfl, p0, p1, ?_⟩
    refine ⟨_, rfl, d, 0, _, rfl, by omega, ?_⟩
    refine ⟨_, rfl, d, 1000, rfl, by omega, ?_⟩
    refine ⟨_, rfl, _, rfl, (false, a), c, ts, cs, rfl, e1 _ _ ha, e1 _ _ hc, l, fun x hx => (pos x hx).1, fun H2 e2 => ?_⟩
    have E2 := ext e1 e2
    dsimp only
    have p2 : (2 : Int) ^ d ≤ 2 ^ 1000 := pow2_le d1
    have b2 : ∀ x : Int, 0 ≤ x → x ≤ 2 ^ d → x.natAbs < 2 ^ 5000 := fun x h0 h1 => by
      have h2 : x ≤ 2 ^ 1000 := Int.le_trans h1 p2
      have h3 : ((x.natAbs : Nat) : Int) = x := by omega
      have h4 : x.natAbs ≤ 2 ^ 1000 := by
        have : ((2 ^ 1000 : Nat) : Int) = (2 : Int) ^ 1000 := by simp
        omega
      exact Nat.lt_of_le_of_lt h4 (Nat.pow_lt_pow_right (by decide) (by decide))
    have bn : ∀ x : Int, 0 ≤ x → x < n → x.natAbs < 2 ^ 5000 := fun x h0 h1 => Nat.lt_of_lt_of_le (show x.natAbs < 2 ^ 4000 by omega) (Nat.pow_le_pow_right (by decide) (by decide))
    refine ⟨_, rfl, _, rfl, _, rfl, _, rfl, _, rfl, _, _, rfl, rfl, shl_ok (n := 1) (by decide) (by omega), n, p, 2 ^ d, a, c, ts, cs, by dsimp only; rw [Int.one_mul, Int.toNat_natCast]; rfl, n1, E2 _ _ ha, E2 _ _ hc, l, l100, fun x hx => b2 x (pos x hx).1 (pos x hx).2, fun x hx => bn x (inr x hx).1 (inr x hx).2, b2 _ (Int.le_of_lt (Int.pow_pos (by decide))) (Int.le_refl _), bn p p0 p1, esum, dv, fun H3 e3 => k _ (ext E2 e3)⟩
end

/-- a sum of targets: 2^d of them, for the place p -/
structure SumAt (n : Int) (ts : List Int) (p : Int) (d : Nat) (cs : List Int) : Prop where
  len : cs.length = ts.length
  pos : ∀ x ∈ cs, 0 ≤ x
  sum : cs.sum = 2 ^ d
  dvd : n ∣ wsum cs ts - 2 ^ d * p
theorem le_sum : ∀ {cs : List Int}, (∀ x ∈ cs, 0 ≤ x) → ∀ x ∈ cs, x ≤ cs.sum
  | [], _, x, h => nomatch h
  | c :: cs, p, x, h => by
    have nn : ∀ l : List Int, (∀ x ∈ l, 0 ≤ x) → 0 ≤ l.sum := fun l => by
      induction l with
      | nil => exact fun _ => Int.le_refl _
      | cons a l ih =>
        intro q
        have := ih fun x hx => q x (List.mem_cons_of_mem _ hx)
        have := q a List.mem_cons_self
        rw [List.sum_cons]
        omega
    rw [List.sum_cons]
    rcases List.mem_cons.mp h with rfl | h
    · have := nn cs fun y hy => p y (List.mem_cons_of_mem _ hy)
      omega
    · have := le_sum (fun y hy => p y (List.mem_cons_of_mem _ hy)) x h
      have := p c List.mem_cons_self
      omega
theorem emod_dvd (a n : Int) : n ∣ a % n - a := ⟨-(a / n), by have := Int.mul_ediv_add_emod a n; grind⟩
theorem wsum_cons (c t : Int) (cs ts : List Int) : wsum (c :: cs) (t :: ts) = c * t + wsum cs ts := rfl

theorem made_dvd {n d T r k : Int} (n0 : 0 < n) (d0 : 0 < d) (hT : T % gcdI d n = 0) (hr : d / gcdI d n * r % (n / gcdI d n) = 1 % (n / gcdI d n)) :
    n ∣ T - d * ((T / gcdI d n * r % (n / gcdI d n) + n / gcdI d n * k) % n) := by
  have G0 : 0 < gcdI d n := by
    have : 0 < Int.gcd d n := Int.gcd_pos_iff.mpr (.inr (by omega))
    show (0 : Int) < ((Int.gcd d n : Nat) : Int)
    omega
  obtain ⟨R, hR⟩ : gcdI d n ∣ n := Int.gcd_dvd_right _ _
  obtain ⟨D, hD⟩ : gcdI d n ∣ d := Int.gcd_dvd_left _ _
  obtain ⟨X, hX⟩ := Int.dvd_of_emod_eq_zero hT
  generalize gcdI d n = g at *
  have eR : n / g = R := by rw [hR, Int.mul_ediv_cancel_left _ (by omega)]
  have eD : d / g = D := by rw [hD, Int.mul_ediv_cancel_left _ (by omega)]
  have eX : T / g = X := by rw [hX, Int.mul_ediv_cancel_left _ (by omega)]
  rw [eR, eD] at hr
  rw [eX, eR]
  have h1 : R ∣ D * r - 1 := emod_eq_iff.mp hr
  have h2 : R ∣ X * r % R - X * r := emod_dvd _ _
  have h3 : R ∣ D * (X * r % R) - X := by
    have := Int.dvd_add (Int.dvd_mul_of_dvd_right (b := D) h2) (Int.dvd_mul_of_dvd_right (b := X) h1)
    exact (congrArg (R ∣ ·) (by grind)).mp this
  have h4 : n ∣ g * (D * (X * r % R) - X) := by
    rw [hR]
    exact Int.mul_dvd_mul (Int.dvd_refl g) h3
  have h5 : n ∣ (X * r % R + R * k) % n - (X * r % R + R * k) := emod_dvd _ _
  have h6 : n ∣ d * ((X * r % R + R * k) % n - (X * r % R + R * k)) := Int.dvd_mul_of_dvd_right h5
  have h7 : n ∣ D * k * (g * R) := by
    rw [← hR]
    exact Int.dvd_mul_left _ _
  have h8 := Int.dvd_neg.mpr (Int.dvd_add (Int.dvd_add h4 h6) h7)
  refine (congrArg (n ∣ ·) ?_).mp h8
  rw [hD, hX]
  grind
theorem made_co {n d : Int} (n0 : 0 < n) : Int.gcd (d / gcdI d n) (n / gcdI d n) = 1 := by
  have h : 0 < Int.gcd d n := Int.gcd_pos_iff.mpr (.inr (by omega))
  exact Int.gcd_ediv_gcd_ediv_gcd h
/-- amounts for the targets, 2^d in all, so that their sum is a multiple of g -/
structure AmtAt (g : Int) (ts : List Int) (d : Nat) (cs : List Int) : Prop where
  len : cs.length = ts.length
  pos : ∀ x ∈ cs, 0 ≤ x
  sum : cs.sum = 2 ^ d
  dvd : wsum cs ts % g = 0
theorem sum_set : ∀ {cs : List Int} {i : Nat} {v : Int}, i < cs.length → (cs.set i v).sum = cs.sum - cs.getD i 0 + v
  | c :: cs, 0, v, _ => by
    show v + cs.sum = c + cs.sum - c + v
    omega
  | c :: cs, i + 1, v, h => by
    have ih := sum_set (cs := cs) (i := i) (v := v) (by simpa using h)
    show c + (cs.set i v).sum = c + cs.sum - cs.getD i 0 + v
    omega
theorem mem_set_of {cs : List Int} {i : Nat} {v x : Int} (h : x ∈ cs.set i v) : x = v ∨ x ∈ cs := by
  rcases List.mem_or_eq_of_mem_set h with h | h
  · exact .inr h
  · exact .inl h
theorem cut_fr (xs : List V) (k : Nat) : cutV xs (some (k : Int)) none = xs.drop k := by
  unfold cutV
  rw [HT.sIx_nat, HT.sIx_none]
  by_cases h : k ≤ xs.length
  · rw [Nat.min_eq_left h]
    exact List.take_of_length_le (by rw [List.length_drop]; omega)
  · rw [Nat.min_eq_right (by omega), List.drop_of_length_le (Nat.le_refl _), List.drop_of_length_le (by omega)]
    simp
theorem rep_zero (n : Nat) : (List.replicate n [V.int 0]).flatten = (List.replicate n (0 : Int)).map V.int := by
  induction n with
  | zero => rfl
  | succ n ih =>
    rw [List.replicate_succ, List.flatten_cons, ih, List.replicate_succ]
    rfl
theorem wsum_rep : ∀ (n : Nat) (ts : List Int), wsum (List.replicate n 0) ts = 0
  | 0, _ => by simp [wsum]
  | n + 1, [] => by simp [wsum]
  | n + 1, t :: ts => by
    rw [List.replicate_succ, wsum_cons, wsum_rep n ts, Int.zero_mul]
    rfl
theorem rep_sum (n : Nat) : (List.replicate n (0 : Int)).sum = 0 := by
  induction n with
  | zero => rfl
  | succ n ih => rw [List.replicate_succ, List.sum_cons, ih]; rfl
theorem set_map {f : Int → V} : ∀ (cs : List Int) (i : Nat) (v : Int), (cs.map f).set i (f v) = (cs.set i v).map f
  | [], _, _ => rfl
  | c :: cs, 0, v => rfl
  | c :: cs, i + 1, v => by
    show f c :: (cs.map f).set i (f v) = f c :: (cs.set i v).map f
    rw [set_map cs i v]
theorem amt_first {g : Int} {ts : List Int} {d : Nat} (ne : ts ≠ []) (hg : g ∣ 2 ^ d) : AmtAt g ts d ((List.replicate ts.length 0).set 0 (2 ^ d)) := by
  cases ts with
  | nil => exact absurd rfl ne
  | cons t ts =>
    have p := Int.pow_pos (n := (2 : Int)) (m := d) (by decide)
    rw [List.length_cons, List.replicate_succ]
    refine ⟨by simp, fun x hx => ?_, ?_, ?_⟩
    · rcases List.mem_cons.mp hx with rfl | hx
      · omega
      · rw [(List.mem_replicate.mp hx).2]
        exact Int.le_refl _
    · show 2 ^ d + (List.replicate ts.length (0 : Int)).sum = _
      rw [rep_sum]
      omega
    · show (2 ^ d * t + wsum (List.replicate ts.length 0) ts) % g = 0
      rw [wsum_rep, Int.add_zero]
      exact Int.emod_eq_zero_of_dvd (Int.dvd_mul_of_dvd_left hg)
theorem first_zero : ∀ {ds : List Int}, (0 : Int) ∈ ds → ∃ j : Nat, ds[j]? = some 0 ∧ ∀ (m : Nat) z, m < j → ds[m]? = some z → z ≠ 0
  | [], h => nomatch h
  | a :: ds, h => by
    by_cases c : a = 0
    · exact ⟨0, by rw [c]; rfl, fun m z hm => absurd hm (Nat.not_lt_zero _)⟩
    · rcases List.mem_cons.mp h with e | h
      · exact absurd e.symm c
      obtain ⟨j, h1, h2⟩ := first_zero h
      refine ⟨j + 1, h1, fun m z hm hz => ?_⟩
      cases m with
      | zero => exact (Option.some.inj hz) ▸ c
      | succ m => exact h2 m z (by omega) hz
theorem wsum_bound {n : Int} : ∀ {cs ts : List Int}, cs.length = ts.length → (∀ x ∈ cs, 0 ≤ x) → (∀ t ∈ ts, 0 ≤ t ∧ t < n) → 0 ≤ wsum cs ts ∧ wsum cs ts ≤ cs.sum * n
  | [], [], _, _, _ => by simp [wsum]
  | c :: cs, t :: ts, h, p, q => by
    obtain ⟨h1, h2⟩ := wsum_bound (n := n) (cs := cs) (ts := ts) (by simpa using h) (fun x hx => p x (List.mem_cons_of_mem _ hx)) fun x hx => q x (List.mem_cons_of_mem _ hx)
    have p0 := p c List.mem_cons_self
    obtain ⟨q0, q1⟩ := q t List.mem_cons_self
    have m0 := Int.mul_nonneg p0 q0
    have m1 := Int.mul_le_mul_of_nonneg_left (show t ≤ n by omega) p0
    rw [wsum_cons, List.sum_cons, Int.add_mul]
    omega
/-- what the inner loop draws: nothing yet at the places still to come -/
structure DrawAt (n : Nat) (tot : Int) (tl : List Int) (j : Nat) (y0 : Int) (rest : Int) (ds : List Int) : Prop where
  len : ds.length = n
  pos : ∀ x ∈ ds, 0 ≤ x
  rest0 : 0 ≤ rest
  sum : ds.sum + rest = tot
  zero : ∀ i : Nat, (i : Int) ∉ tl.take j → ds.getD i 0 = 0
theorem getD_set {cs : List Int} {i k : Nat} {v : Int} (h : k ≠ i) : (cs.set i v).getD k 0 = cs.getD k 0 := by
  rw [List.getD_eq_getElem?_getD, List.getD_eq_getElem?_getD, List.getElem?_set_ne (Ne.symm h)]
theorem DrawAt.next {n : Nat} {tot : Int} {tl : List Int} {j : Nat} {y0 rest : Int} {ds : List Int} {a : Nat} {v : Int} (h : DrawAt n tot tl j y0 rest ds) (ht : tl[j]? = some (a : Int)) (nd : tl.Nodup) (ha : a < n) (v0 : 0 ≤ v) (v1 : v ≤ rest) :
    DrawAt n tot tl (j + 1) y0 (rest - v) (ds.set a v) where
  len := by rw [List.length_set]; exact h.len
  pos := fun x hx => by
    rcases mem_set_of hx with rfl | hx
    · exact v0
    · exact h.pos x hx
  rest0 := by omega
  sum := by
    have z : ds.getD a 0 = 0 := h.zero a fun hm => by
      obtain ⟨k, hk⟩ := List.getElem?_of_mem hm
      have hk2 : k < j := by
        have := (List.getElem?_eq_some_iff.mp hk).1
        rw [List.length_take] at this
        omega
      rw [List.getElem?_take_of_lt hk2] at hk
      have := (List.getElem?_inj (by have := (List.getElem?_eq_some_iff.mp hk).1; exact this) nd).mp (hk.trans ht.symm)
      omega
    rw [sum_set (by rw [h.len]; exact ha), z]
    have := h.sum
    omega
  zero := fun i hi => by
    rw [take_more ht] at hi
    rw [List.mem_append, List.mem_singleton, not_or] at hi
    rw [getD_set (by omega)]
    exact h.zero i hi.1
theorem atI_cast {α : Type} {xs : List α} {k : Nat} {v : α} (h : xs[k]? = some v) : atI xs (k : Int) = some v := by
  unfold atI
  rw [Evl.ixN_nat (List.getElem?_eq_some_iff.mp h).1]
  exact h
theorem map_at (f : Int → V) {cs : List Int} {k : Nat} {v : Int} (h : cs[k]? = some v) : (cs.map f)[k]? = some (f v) := by
  rw [List.getElem?_map, h]
  rfl
def idxL (n : Nat) : List Int := (List.range n).map fun i => ((i : Nat) : Int)
theorem rgV_idx (n : Nat) : rgV 0 (n : Int) = (idxL n).map V.int := by
  unfold rgV idxL
  rw [List.map_map, show ((n : Int) - 0).toNat = n by omega]
  refine List.map_congr_left fun i _ => ?_
  show V.int (0 + (i : Int)) = V.int i
  rw [Int.zero_add]
theorem idx_mem {n : Nat} {y : Int} : y ∈ idxL n ↔ ∃ a : Nat, a < n ∧ y = a := by
  unfold idxL
  rw [List.mem_map]
  constructor
  · rintro ⟨a, h, rfl⟩
    exact ⟨a, List.mem_range.mp h, rfl⟩
  · rintro ⟨a, h, rfl⟩
    exact ⟨a, List.mem_range.mpr h, rfl⟩
theorem idx_nodup (n : Nat) : (idxL n).Nodup := by
  unfold idxL
  rw [List.Nodup, List.pairwise_map]
  exact (List.nodup_range (n := n)).imp fun h z => h (Int.ofNat.inj z)
theorem cut_tail (ys : List Int) : cutV (ys.map V.int) (some 1) none = ys.tail.map V.int := by
  have h := cut_fr (ys.map V.int) 1
  rw [show ((1 : Nat) : Int) = 1 from rfl] at h
  rw [h, List.drop_one, List.map_tail]
section
variable {P : Program} {w : World} {K : PySem.W.Frag} {mg : Str → Option Value} {base : Heap}
def sp_law_made : Sp := fun vs H Q _ => ∃ (s g : Addr) (n : Int) (d m : Nat) (ts : List Int), vs = [.ref s, .int n, .ref g, .int d] ∧ Sr5 H s (m + 10000) ∧ 0 < n ∧ n ≤ 10 ^ 40 ∧ d ≤ 1000 ∧ H g = some (.lst (ts.map V.int)) ∧ g ≠ s ∧ ts ≠ [] ∧ ts.length ≤ 100 ∧ (∀ t ∈ ts, 0 ≤ t ∧ t < n) ∧
  ∀ (p : Int) (cs : List Int) (q l : Addr) H2, 0 ≤ p → p < n → SumAt n ts p d cs → XB s H H2 → Sr5 H2 s m → H2 q = some (.tup [.int p, .ref l]) → H2 l = some (.lst (cs.map V.int)) → H l = none → Q (.ref q) H2
theorem ok_law_made (T : TX K mg) : FnOk P w K mg base CX0 3 T.f_law_made T.fd_law_made ["_law_source_here", "_law_ring", "_law_goals", "_law_depth"] sp_law_made := by
  refine T.F_law_made.ok sc_law_made (fun vs H Q E h => ?_) (fun cdv A outer s H vs Q E hr h => ?_)
  · obtain ⟨s, g, n, d, m, ts, rfl, _⟩ := h
    rfl
  · obtain ⟨s, g, n, d, m, ts, rfl, hs, n0, n40, d1, hg, ngs, ne, l100, inr, kk⟩ := h
    refine ⟨_, (pss_cons (ps_set (i := 4) sc_law_made.nd rfl (Or.inl rfl) (pe_call (ok_law_gcd T) (hr.mono (by decide)) rfl T.m_law_gcd T.F_law_gcd.kp T.b_law_gcd .nil pass0 (pa_cons (pe_op op_shlW pe_int (pv 3)) (pa_cons (pv 1) pa_nil)))) (pss_cons (ps_set (i := 5) sc_law_made.nd rfl (Or.inl rfl) (pe_op op_rep (pe_lst (pa_cons pe_int pa_nil)) (pe_callB call_len_seq (by rfl) T.z_len (by decide +kernel) (pa_cons (pv 2) pa_nil)))) (pss_cons (ps_asg (pe_op op_shlW pe_int (pv 3)) (pg_sub (pv 5) pe_int set_list)) (pss_cons (ps_for PassesOwn.never rfl (pi_range1 rfl T.z_range (pa_cons pe_int pa_nil)) (pg_name (i := 6) sc_law_made.nd rfl (Or.inl rfl)) (pss_cons (ps_set (i := 7) sc_law_made.nd rfl (Or.inl rfl) (pe_op op_rep (pe_lst (pa_cons pe_int pa_nil)) (pe_callB call_len_seq (by rfl) T.z_len (by decide +kernel) (pa_cons (pv 2) pa_nil)))) (pss_cons (ps_set (i := 8) sc_law_made.nd rfl (Or.inl rfl) (pe_op op_shlW pe_int (pv 3))) (pss_cons (ps_for PassesOwn.never rfl (pi_list (pe_slice sl_list (pe_call (ok_law_shuffled T) hr rfl T.m_law_shuffled T.F_law_shuffled.kp T.b_law_shuffled .nil pass0 (pa_cons (pv 0) (pa_cons (pe_listRg rfl (by rfl) T.z_list (prg_1 (by rfl) T.z_range (pe_callB call_len_seq (by rfl) T.z_len (by decide +kernel) (pa_cons (pv 2) pa_nil)))) pa_nil))) (po_some pe_int) po_none)) (pg_name (i := 9) sc_law_made.nd rfl (Or.inl rfl)) (pss_cons (ps_asg (pe_ix ix_list (pe_lst (pa_cons pe_int (pa_cons (pe_call (ok_law_large T) hr rfl T.m_law_large T.F_law_large.kp T.b_law_large .nil pass0 (pa_cons (pv 0) (pa_cons (pe_op op_add (pv 8) pe_int) pa_nil))) (pa_cons (pe_callB (call_min2 rfl) (by rfl) T.z_min (by decide +kernel) (pa_cons (pv 8) (pa_cons (pe_call (ok_law_take T) (hr.mono (by decide)) rfl T.m_law_take T.F_law_take.kp T.b_law_take .nil pass0 (pa_cons (pv 0) (pa_cons pe_int pa_nil))) pa_nil))) pa_nil)))) (pe_call (ok_law_take T) (hr.mono (by decide)) rfl T.m_law_take T.F_law_take.kp T.b_law_take .nil pass0 (pa_cons (pv 0) (pa_cons pe_int pa_nil))) (fun _ _ => rfl)) (pg_sub (pv 7) (pv 9) set_list)) (pss_one (ps_set (i := 8) sc_law_made.nd rfl (Or.inl rfl) (pe_op op_sub (pv 8) (pe_ix ix_list (pv 7) (pv 9) (fun _ _ => rfl))))))) (pss_cons (ps_asg (pv 8) (pg_sub (pv 7) (pe_bm PySem.F.plainAttrs_list PySem.F.slot_list_index PySem.F.type_list_index mt_index (pv 7) (pa_cons pe_int pa_nil)) set_list)) (pss_one (ps_if (pt_cmpR op_eq (pe_op op_mod (pe_callB (cr_sum rfl) (by rfl) T.z_sum (by decide +kernel) (pa_cons (pe_lc (own := [("_law_amount", 13), ("_law_goal", 14)]) (g := (gTup K 2 (gCons (gName 13) (gCons (gName 14) gNil)))) rfl sc_law_made.nd (CZ.pi_z2 (fl := [false, false]) rfl (by rfl) T.z_zip (pa_cons (pv 7) (pa_cons (pv 2) pa_nil))) (blkOk_by (N := N_law_made) (sc := defScope s_law_made) (by decide +kernel)) (fun _ _ _ _ _ => (pg_tup rfl (pgs_cons (pg_name (i := 13) sc_law_made.nd rfl (Or.inl rfl)) (pgs_cons (pg_name (i := 14) sc_law_made.nd rfl (Or.inl rfl)) pgs_nil)))) (fun _ _ _ _ _ => pts_nil) (fun _ _ _ _ _ => (pe_op op_mulI (pv 13) (pv 14)))) pa_nil)) (pv 4)) pe_int (nomark _)) (pss_one (ps_set (i := 5) sc_law_made.nd rfl (Or.inl rfl) (pv 7))) pss_nil))))))) (pss_cons (ps_set (i := 10) sc_law_made.nd rfl (Or.inl rfl) (pe_callB (cr_sum rfl) (by rfl) T.z_sum (by decide +kernel) (pa_cons (pe_lc (own := [("_law_amount", 13), ("_law_goal", 14)]) (g := (gTup K 2 (gCons (gName 13) (gCons (gName 14) gNil)))) rfl sc_law_made.nd (CZ.pi_z2 (fl := [false, false]) rfl (by rfl) T.z_zip (pa_cons (pv 5) (pa_cons (pv 2) pa_nil))) (blkOk_by (N := N_law_made) (sc := defScope s_law_made) (by decide +kernel)) (fun _ _ _ _ _ => (pg_tup rfl (pgs_cons (pg_name (i := 13) sc_law_made.nd rfl (Or.inl rfl)) (pgs_cons (pg_name (i := 14) sc_law_made.nd rfl (Or.inl rfl)) pgs_nil)))) (fun _ _ _ _ _ => pts_nil) (fun _ _ _ _ _ => (pe_op op_mulI (pv 13) (pv 14)))) pa_nil))) (pss_cons (ps_set (i := 11) sc_law_made.nd rfl (Or.inl rfl) (pe_op op_fdivW (pv 1) (pv 4))) (pss_cons (ps_set (i := 12) sc_law_made.nd rfl (Or.inl rfl) (pe_op op_mod (pe_op op_mulI (pe_op op_fdivW (pv 10) (pv 4)) (pe_call (ok_law_inverse T) (hr.mono (by decide)) rfl T.m_law_inverse T.F_law_inverse.kp T.b_law_inverse .nil pass0 (pa_cons (pe_op op_fdivW (pe_op op_shlW pe_int (pv 3)) (pv 4)) (pa_cons (pv 11) pa_nil)))) (pv 11))) (pss_one (ps_ret (pe_tup (pa_cons (pe_op op_mod (pe_op op_add (pv 12) (pe_op op_mulI (pv 11) (pe_call (ok_law_take T) (hr.mono (by decide)) rfl T.m_law_take T.F_law_take.kp T.b_law_take .nil pass0 (pa_cons (pv 0) (pa_cons (pv 4) pa_nil))))) (pv 1)) (pa_cons (pv 5) pa_nil)))))))))))), ?_⟩
    have tp : 0 < ts.length := List.length_pos_iff.mpr ne
    refine ⟨_, rfl, _, _, rfl, rfl, shl_ok (n := 1) (by decide) (by omega), _, rfl, ?_⟩
    have ed : (1 : Int) * 2 ^ (d : Int).toNat = 2 ^ d := by rw [Int.one_mul, Int.toNat_natCast]
    dsimp only [tNil]
    rw [ed]
    have pd := Int.pow_pos (n := (2 : Int)) (m := d) (by decide)
    have G0 : 0 < gcdI (2 ^ d) n := by
      have : 0 < Int.gcd (2 ^ d) n := Int.gcd_pos_iff.mpr (.inr (by omega))
      show (0 : Int) < ((Int.gcd (2 ^ d) n : Nat) : Int)
      omega
    have Gd : gcdI (2 ^ d) n ∣ 2 ^ d := Int.gcd_dvd_left _ _
    have Gn : gcdI (2 ^ d) n ∣ n := Int.gcd_dvd_right _ _
    have Gle : gcdI (2 ^ d) n ≤ n := Int.le_of_dvd n0 Gn
    refine ⟨_, _, rfl, Int.le_of_lt pd, Int.le_of_lt n0, ?_⟩
    dsimp only [gName]
    have made : ∀ {T r k : Int}, T % gcdI (2 ^ d) n = 0 → (2 : Int) ^ d / gcdI (2 ^ d) n * r % (n / gcdI (2 ^ d) n) = 1 % (n / gcdI (2 ^ d) n) → n ∣ T - 2 ^ d * ((T / gcdI (2 ^ d) n * r % (n / gcdI (2 ^ d) n) + n / gcdI (2 ^ d) n * k) % n) := fun h1 h2 => made_dvd n0 pd h1 h2
    have co : Int.gcd (2 ^ d / gcdI (2 ^ d) n) (n / gcdI (2 ^ d) n) = 1 := made_co n0
    have part0 : 1 ≤ n / gcdI (2 ^ d) n := Int.le_ediv_of_mul_le G0 (by omega)
    have part1 : n / gcdI (2 ^ d) n ≤ n := Int.ediv_le_self _ (Int.le_of_lt n0)
    generalize gcdI (2 ^ d) n = G at *
    have ed0 : ∀ e : Nat, e ≤ 1000 → (2 : Int) ^ e ≤ 2 ^ 1000 := fun e he => pow2_le he
    refine ⟨slen rfl, ?_⟩
    (intro z0 nz0; generalize hGz0 : upd _ z0 _ = H1; have eH1 := exG hGz0 nz0; have hz0 := atG hGz0; clear hGz0)
    have tl62 : ((List.map V.int ts).length : Int) ≤ 100 := by rw [List.length_map]; omega
    refine ⟨_, rfl, g, _, rfl, .inl (SqL.of (eH1 _ _ hg)), z0, _, _, rfl, rfl, hz0, by omega, by omega, by rw [Int.toNat_natCast]; exact Nat.le_trans (show _ ≤ 100 by simp only [List.length_cons, List.length_nil]; omega) (by decide), fun am ham => ?_⟩
    rw [Int.toNat_natCast, List.length_map, rep_zero]
    generalize hG : upd H1 am _ = H2
    have e2 := exG hG ham
    have ha2 := atG hG
    clear hG
    dsimp only [gName]
    have E2 := ext eH1 e2
    have nam0 : H am = none := Evl.fresh_back eH1 ham
    have nas : am ≠ s := hs.ne nam0
    refine ⟨_, rfl, _, _, rfl, rfl, shl_ok (n := 1) (by decide) (by omega), ?_⟩
    dsimp only
    rw [ed]
    refine ⟨_, rfl, am, _, _, 0, rfl, rfl, ha2, by rw [List.length_map, List.length_replicate]; simp [ixN]; omega, ?_⟩
    rw [set_map]
    have at0 := amt_first (ts := ts) ne Gd
    generalize hcs : (List.replicate ts.length (0 : Int)).set 0 (2 ^ d) = cs0 at at0
    clear hcs
    generalize hG : upd H2 am _ = H3
    have ha3 : H3 am = some (.lst (cs0.map V.int)) := by rw [← hG]; exact upd_same
    have xb3 : XB s H H3 := by
      rw [← hG]
      exact XB.app5 (XB.of E2) nam0
    have sr3 : Sr5 H3 s (m + 10000) := by
      rw [← hG]
      exact (hs.mono E2).app nas
    clear hG
    refine ⟨8, rfl, by decide, by decide, ?_⟩
    refine for_it walk_range (fun i σ Hx => (∃ am cs y6 y7 y8 y9 y10 y11 y12 y13 y14, σ = [some (.ref s), some (.int n), some (.ref g), some (.int d), some (.int G), some (.ref am), y6, y7, y8, y9, y10, y11, y12, y13, y14] ∧ H am = none ∧ Hx am = some (.lst (cs.map V.int)) ∧ AmtAt G ts d cs) ∧ XB s H Hx ∧ Sr5 Hx s (m + 1000 + 1000 * (8 - i))) ⟨⟨_, cs0, _, _, _, _, _, _, _, _, _, rfl, nam0, ha3, at0⟩, xb3, sr3.less (by omega)⟩ (fun _ _ _ _ _ => True.intro) ?_ ?_
    · rintro i x σ _ Ha hi ⟨⟨am, cs, y6, y7, y8, y9, y10, y11, y12, y13, y14, rfl, nam, ham, amt⟩, xba, sra⟩ ⟨rfl, rfl⟩
      have hi8 : i < 8 := hi
      dsimp only [gName]
      have hga := xba _ _ ngs hg
      refine ⟨slen rfl, ?_⟩
      (intro z1 nz1; generalize hGz1 : upd _ z1 _ = Hb; have eHb := exG hGz1 nz1; have hz1 := atG hGz1; clear hGz1)
      refine ⟨_, rfl, g, _, rfl, .inl (SqL.of (eHb _ _ hga)), z1, _, _, rfl, rfl, hz1, by omega, by omega, by rw [Int.toNat_natCast]; exact Nat.le_trans (show _ ≤ 100 by simp only [List.length_cons, List.length_nil]; omega) (by decide), fun dr hdr => ?_⟩
      rw [Int.toNat_natCast, List.length_map, rep_zero]
      generalize hG : upd Hb dr _ = Hc
      have ec := exG hG hdr
      have hdc := atG hG
      clear hG
      dsimp only [gName]
      have Eac := ext eHb ec
      refine ⟨_, rfl, _, _, rfl, rfl, shl_ok (n := 1) (by decide) (by omega), ?_⟩
      dsimp only [gName]
      rw [ed]
      show tSeq _ _ _ [_, _, _, _, _, _, _, _, _, _, _, _, _, _, _] _
      have src := sra.mono Eac
      have nds : dr ≠ s := (sra.mono eHb).ne hdr
      have xac : XB s H Hc := xba.trans (XB.of Eac)
      have ndr : H dr = none := (xba.trans (XB.of eHb)).back nds hdr
      have nas2 : am ≠ s := hs.ne nam
      have nad : am ≠ dr := ne_of_none (eHb _ _ ham) hdr
      refine ⟨_, rfl, _, rfl, g, _, rfl, .inl (SqL.of (Eac _ _ hga)), _, rfl, RgOk.of_le (by decide) (by omega) (by decide) (by omega), fun rl hrl => ?_⟩
      rw [List.length_map, rgV_idx]
      generalize hG : upd Hc rl _ = Hd
      have ed1 := exG hG hrl
      have hrd := atG hG
      clear hG
      have lidx : (idxL ts.length).length = ts.length := by simp [idxL]
      refine ⟨s, rl, idxL ts.length, m + 1000 + 1000 * (8 - (i + 1)) + 600, rfl, (src.mono ed1).less (by rw [lidx]; omega), hrd, src.ne hrl, by rw [lidx]; omega, fun yl ys He nyl hyl pm xbe sre => ?_⟩
      refine ⟨1, rfl, ?_⟩
      unfold tNoPart
      refine ⟨yl, _, rfl, SqL.of hyl, fun tl htl => ?_⟩
      rw [cut_tail]
      generalize hG : upd He tl _ = Hf
      have ef := exG hG htl
      have htf := atG hG
      clear hG
      have xcf : XB s Hc Hf := (XB.of ed1).trans (xbe.trans (XB.of ef))
      have xf := xac.trans xcf
      have hdf := xcf _ _ nds hdc
      have haf := xcf _ _ nas2 (Eac _ _ ham)
      have srf := sre.mono ef
      have nts : tl ≠ s := sre.ne htl
      have ntd : tl ≠ dr := by
        have h1 : He dr = some (.lst ((List.replicate ts.length (0 : Int)).map V.int)) := xbe _ _ nds (ed1 _ _ hdc)
        exact (ne_of_none h1 htl).symm
      have ynd : ys.Nodup := pm.nodup_iff.mpr (idx_nodup _)
      have ymem : ∀ y ∈ ys, ∃ a : Nat, a < ts.length ∧ y = a := fun y hy => idx_mem.mp (pm.mem_iff.mp hy)
      have ylen : ys.length = ts.length := by rw [pm.length_eq, lidx]
      obtain ⟨y0, yt, rfl⟩ : ∃ y0 yt, ys = y0 :: yt := by
        cases ys with
        | nil => rw [← ylen] at tp; exact absurd tp (by simp)
        | cons a b => exact ⟨a, b, rfl⟩
      rw [List.nodup_cons] at ynd
      have ytl : yt.length < 100 := by
        rw [List.length_cons] at ylen
        omega
      refine ⟨tl, rfl, ⟨_, SqL.of htf⟩, ?_⟩
      refine for_it (walk_list (xs := yt.map V.int)) (fun j σ Hx => (∃ rest ds z9 z10 z11 z12 z13 z14, σ = [some (.ref s), some (.int n), some (.ref g), some (.int d), some (.int G), some (.ref am), some (.int (0 + (i : Int))), some (.ref dr), some (.int rest), z9, z10, z11, z12, z13, z14] ∧ Hx dr = some (.lst (ds.map V.int)) ∧ DrawAt ts.length (2 ^ d) yt j y0 rest ds) ∧ Hx tl = some (.lst (yt.map V.int)) ∧ Hx am = some (.lst (cs.map V.int)) ∧ XB s H Hx ∧ Sr5 Hx s (m + 1000 + 1000 * (8 - (i + 1)) + 6 * (100 - j)))
        ⟨⟨2 ^ d, _, _, _, _, _, _, _, rfl, hdf, ⟨by simp, fun x hx => by rw [(List.mem_replicate.mp hx).2]; exact Int.le_refl _, Int.le_of_lt pd, by rw [rep_sum]; omega, fun k _ => by rw [List.getD_eq_getElem?_getD, List.getElem?_replicate]; split <;> rfl⟩⟩, htf, haf, xf, srf.less (by omega)⟩ (fun j σ Hx _ ⟨_, q, _⟩ => SqL.of q) ?_ ?_
      · rintro j x σ _ Hx hj ⟨⟨rest, ds, z9, z10, z11, z12, z13, z14, rfl, hdx, dat⟩, htx, hax, xbx, srx⟩ ⟨rfl, hx⟩
        obtain ⟨a0, ha0, rfl⟩ := map_get hx
        have hj2 : j < 100 := by
          have := (List.getElem?_eq_some_iff.mp ha0).1
          omega
        obtain ⟨a, ha, rfl⟩ := ymem a0 (List.mem_cons_of_mem _ (List.mem_of_getElem? ha0))
        dsimp only [gName]
        have r0 := dat.rest0
        refine ⟨_, rfl, _, rfl, _, _, rfl, rfl, s, rest + 1, m + 1000 + 1000 * (8 - (i + 1)) + 6 * (100 - (j + 1)) + 2, rfl, srx.less (by omega), by omega, fun r1 Hy r10 r11 xby sry => ?_⟩
        refine ⟨_, rfl, _, rfl, s, 3, m + 1000 + 1000 * (8 - (i + 1)) + 6 * (100 - (j + 1)) + 1, rfl, sry, by decide, by decide +kernel, fun r2 Hz r20 r21 xbz srz => ?_⟩
        refine ⟨_, _, rfl, slen rfl, fun lt hlt => ?_⟩
        generalize hG : upd Hz lt _ = Hw
        have ew := exG hG hlt
        have hltw := atG hG
        clear hG
        have nls := srz.ne hlt
        refine ⟨_, rfl, s, 3, m + 1000 + 1000 * (8 - (i + 1)) + 6 * (100 - (j + 1)), rfl, srz.mono ew, by decide, by decide +kernel, fun r3 Hv r30 r31 xbv srv => ?_⟩
        obtain ⟨v, mv, gv⟩ := at_ex (xs := [0, r1, if r2 < rest then r2 else rest]) r30 r31
        have vv : 0 ≤ v ∧ v ≤ rest := by
          simp only [List.mem_cons, List.not_mem_nil, or_false] at mv
          rcases mv with rfl | rfl | rfl
          · omega
          · omega
          · split <;> omega
        refine ⟨lt, _, _, _, rfl, rfl, SqL.of (xbv _ _ nls hltw), gv, ?_⟩
        have xv : XB s Hx Hv := xby.trans (xbz.trans ((XB.of ew).trans xbv))
        have hdv := xv _ _ nds hdx
        refine ⟨_, rfl, _, rfl, dr, _, _, a, rfl, rfl, hdv, by rw [List.length_map, dat.len]; exact Evl.ixN_nat ha, ?_⟩
        rw [set_map]
        have dn := dat.next ha0 ynd.2 ha vv.1 vv.2
        have lds : a < ds.length := by rw [dat.len]; exact ha
        refine ⟨_, rfl, _, rfl, _, rfl, dr, _, _, _, rfl, rfl, SqL.of upd_same, atI_cast (map_at V.int (List.getElem?_set_self lds)), _, _, rfl, rfl, ?_⟩
        refine ⟨⟨rest - v, _, _, _, _, _, _, _, rfl, upd_same, dn⟩, by rw [upd_ne ntd]; exact xv _ _ nts htx, by rw [upd_ne nad]; exact xv _ _ nas2 hax, XB.app5 (xbx.trans xv) ndr, srv.app nds⟩
      · rintro σ Hx ⟨⟨rest, ds, z9, z10, z11, z12, z13, z14, rfl, hdx, dat⟩, htx, hax, xbx, srx⟩
        dsimp only [gName]
        have dat : DrawAt ts.length (2 ^ d) yt yt.length y0 rest ds := by
          have := dat
          rwa [List.length_map] at this
        have z0 : (0 : Int) ∈ ds := by
          obtain ⟨b, hb, rfl⟩ := ymem y0 List.mem_cons_self
          have q := dat.zero b (by rw [List.take_of_length_le (Nat.le_refl _)]; exact ynd.1)
          have lb : b < ds.length := by rw [dat.len]; exact hb
          rw [List.getD_eq_getElem?_getD, List.getElem?_eq_getElem lb] at q
          exact List.mem_of_getElem? ((List.getElem?_eq_getElem lb).trans (congrArg some q))
        obtain ⟨k, hk, hno⟩ := first_zero z0
        have lk : k < ds.length := (List.getElem?_eq_some_iff.mp hk).1
        refine ⟨_, rfl, _, rfl, _, rfl, .inl ⟨rfl, _, SqL.of hdx⟩, dr, _, .int 0, k, .int 0, rfl, rfl, SqL.of hdx, rfl, flat_ints _, map_at V.int hk, by decide, fun e z he hz => ?_, ?_⟩
        · obtain ⟨z', hz', rfl⟩ := map_get hz
          have := hno e z' he hz'
          exact decide_eq_false (by intro q; cases q; exact this rfl)
        refine ⟨dr, _, _, k, rfl, rfl, hdx, by rw [List.length_map]; exact Evl.ixN_nat lk, ?_⟩
        rw [set_map]
        have ek : ds.getD k 0 = 0 := by rw [List.getD_eq_getElem?_getD, hk]; rfl
        have l2 : (ds.set k rest).length = ts.length := by rw [List.length_set]; exact dat.len
        have p2 : ∀ x ∈ ds.set k rest, 0 ≤ x := fun x hx => by
          rcases mem_set_of hx with rfl | hx
          · exact dat.rest0
          · exact dat.pos x hx
        have s2 : (ds.set k rest).sum = 2 ^ d := by
          rw [sum_set lk, ek]
          have := dat.sum
          omega
        generalize ds.set k rest = es at l2 p2 s2
        generalize hG : upd Hx dr _ = Hy
        have hdy : Hy dr = some (.lst (es.map V.int)) := by rw [← hG]; exact upd_same
        have xby : XB s H Hy := by
          rw [← hG]
          exact XB.app5 xbx ndr
        have sry : Sr5 Hy s (m + 1000 + 1000 * (8 - (i + 1))) := by
          rw [← hG]
          exact (srx.app nds).less (by omega)
        have hay : Hy am = some (.lst (cs.map V.int)) := by rw [← hG, upd_ne nad]; exact hax
        clear hG
        have eB : ∀ x ∈ es, x.natAbs < 2 ^ 5000 := fun x hx => by
          have h0 := p2 x hx
          have h1 := le_sum p2 x hx
          rw [s2] at h1
          have h2 : x ≤ 2 ^ 1000 := Int.le_trans h1 (pow2_le (by omega))
          have h4 : x.natAbs ≤ 2 ^ 1000 := by
            have : ((2 ^ 1000 : Nat) : Int) = (2 : Int) ^ 1000 := by simp
            omega
          exact Nat.lt_of_le_of_lt h4 (Nat.pow_lt_pow_right (by decide) (by decide))
        have tB : ∀ x ∈ ts, x.natAbs < 2 ^ 5000 := fun x hx => Nat.lt_of_lt_of_le (abs45 (inr x hx).1 (Int.le_trans (Int.le_of_lt (inr x hx).2) (Int.le_trans n40 (by decide)))) (Nat.pow_le_pow_right (by decide) (by decide))
        have hgy := xby _ _ ngs hg
        refine ⟨_, rfl, _, rfl, [dr, g], rfl, rfl, all2 (sqL hdy) (sqL hgy), fun D hD => ?_⟩
        refine lc_vals (CZ.walk_rows (xss := [es.map V.int, ts.map V.int]) (n := ts.length) (lens2 (by rw [List.length_map, l2]) (by rw [List.length_map]))) ((List.zipWith (fun w x => w * x) es ts).map V.int) (by rw [List.length_map, List.length_zipWith, l2, Nat.min_self]) (by omega) hD (fun H3 e => .cons (sqL (e _ _ hdy)) (.cons (sqL (e _ _ hgy)) .nil)) ?_ (gmono_tup (gmono_cons gmono_name (gmono_cons gmono_name gmono_nil))) ?_
        · intro j y H6 H7 R hj e yy kk2
          obtain ⟨Tb, p, dd, rfl, hTb, rfl, hp, hdd⟩ := yints2 yy
          refine ⟨Tb, _, rfl, SqT.of upd_same, rfl, _, _, rfl, _, _, rfl, rfl, ?_⟩
          refine ⟨rfl, _, rfl, _, rfl, _, _, rfl, rfl, (wide_mul (eB p (List.mem_of_getElem? hp)) (tB dd (List.mem_of_getElem? hdd)) (by decide) (by decide) (by decide)).ok, ?_⟩
          refine kk2 _ _ (exn hTb) ?_
          rw [List.getElem?_map, List.getElem?_zipWith, hp, hdd]
          rfl
        intro Hz ez hDz
        have xbz := xby.trans (XB.of ez)
        have srz := sry.mono ez
        refine ⟨D, _, rfl, SqL.of hDz, _, rfl, _, _, rfl, rfl, G0, rfl, _, rfl, ?_⟩
        refine ite2 (fun hq => ?_) (fun _ => ?_)
        · have hq : wsum es ts % G = 0 := by
            have := of_decide_eq_true hq
            injection this
          exact ⟨_, rfl, ⟨dr, es, _, _, _, _, _, _, _, _, _, rfl, ndr, ez _ _ hdy, ⟨l2, p2, s2, hq⟩⟩, xbz, srz⟩
        · exact ⟨⟨am, cs, _, _, _, _, _, _, _, _, _, rfl, nam, ez _ _ hay, amt⟩, xbz, srz⟩
    · rintro σ Ha ⟨⟨am, cs, y6, y7, y8, y9, y10, y11, y12, y13, y14, rfl, nam, ham, amt⟩, xba, sra⟩
      dsimp only [gName]
      have hga := xba _ _ ngs hg
      have cB : ∀ x ∈ cs, x.natAbs < 2 ^ 5000 := fun x hx => by
        have h0 := amt.pos x hx
        have h1 := le_sum amt.pos x hx
        rw [amt.sum] at h1
        have h2 : x ≤ 2 ^ 1000 := Int.le_trans h1 (pow2_le (by omega))
        have h4 : x.natAbs ≤ 2 ^ 1000 := by
          have : ((2 ^ 1000 : Nat) : Int) = (2 : Int) ^ 1000 := by simp
          omega
        exact Nat.lt_of_le_of_lt h4 (Nat.pow_lt_pow_right (by decide) (by decide))
      have tB : ∀ x ∈ ts, x.natAbs < 2 ^ 5000 := fun x hx => Nat.lt_of_lt_of_le (abs45 (inr x hx).1 (Int.le_trans (Int.le_of_lt (inr x hx).2) (Int.le_trans n40 (by decide)))) (Nat.pow_le_pow_right (by decide) (by decide))
      refine ⟨_, rfl, _, rfl, [am, g], rfl, rfl, all2 (sqL ham) (sqL hga), fun D hD => ?_⟩
      refine lc_vals (CZ.walk_rows (xss := [cs.map V.int, ts.map V.int]) (n := ts.length) (lens2 (by rw [List.length_map, amt.len]) (by rw [List.length_map]))) ((List.zipWith (fun w x => w * x) cs ts).map V.int) (by rw [List.length_map, List.length_zipWith, amt.len, Nat.min_self]) (by omega) hD (fun H3 e => .cons (sqL (e _ _ ham)) (.cons (sqL (e _ _ hga)) .nil)) ?_ (gmono_tup (gmono_cons gmono_name (gmono_cons gmono_name gmono_nil))) ?_
      · intro j y H6 H7 R hj e yy kk2
        obtain ⟨Tb, p, dd, rfl, hTb, rfl, hp, hdd⟩ := yints2 yy
        refine ⟨Tb, _, rfl, SqT.of upd_same, rfl, _, _, rfl, _, _, rfl, rfl, ?_⟩
        refine ⟨rfl, _, rfl, _, rfl, _, _, rfl, rfl, (wide_mul (cB p (List.mem_of_getElem? hp)) (tB dd (List.mem_of_getElem? hdd)) (by decide) (by decide) (by decide)).ok, ?_⟩
        refine kk2 _ _ (exn hTb) ?_
        rw [List.getElem?_map, List.getElem?_zipWith, hp, hdd]
        rfl
      intro Hz ez hDz
      have xbz := xba.trans (XB.of ez)
      have srz := sra.mono ez
      refine ⟨D, _, rfl, SqL.of hDz, ?_⟩
      dsimp only [gName]
      have ew : (List.zipWith (fun w x => w * x) cs ts).sum = wsum cs ts := rfl
      rw [ew]
      have gB : G.natAbs < 2 ^ 150 := abs45 (Int.le_of_lt G0) (Int.le_trans Gle (Int.le_trans n40 (by decide)))
      have pB : (n / G).natAbs < 2 ^ 150 := abs45 (by omega) (Int.le_trans part1 (Int.le_trans n40 (by decide)))
      refine ⟨_, rfl, _, rfl, _, _, rfl, rfl, wide_div G0 gB (by decide) (by decide), ?_⟩
      dsimp only [gName]
      refine ⟨_, rfl, _, rfl, _, _, rfl, rfl, wide_div G0 gB (by decide) (by decide), _, rfl, _, _, rfl, rfl, shl_ok (n := 1) (by decide) (by omega), _, rfl, _, _, rfl, rfl, wide_div G0 gB (by decide) (by decide), _, rfl, ?_⟩
      dsimp only
      rw [ed]
      refine ⟨_, n / G, rfl, part0, Int.le_trans part1 (Int.le_trans n40 (by decide)), co, fun r Hw r0 r1 hr ewv => ?_⟩
      have wB : (wsum cs ts / G).natAbs < 2 ^ 5000 := by
        obtain ⟨w0, w1⟩ := wsum_bound (n := n) amt.len amt.pos inr
        rw [amt.sum] at w1
        have w2 : wsum cs ts / G ≤ wsum cs ts := Int.ediv_le_self _ w0
        have w3 : 0 ≤ wsum cs ts / G := Int.ediv_nonneg w0 (Int.le_of_lt G0)
        have w4 : (2 : Int) ^ d * n ≤ 2 ^ 1000 * n := Int.mul_le_mul_of_nonneg_right (pow2_le d1) (Int.le_of_lt n0)
        have w5 : (2 : Int) ^ 1000 * n ≤ 2 ^ 1000 * 10 ^ 40 := Int.mul_le_mul_of_nonneg_left n40 (Int.le_of_lt (Int.pow_pos (by decide)))
        have w6 : (2 : Int) ^ 1000 * 10 ^ 40 < 2 ^ 1200 := by decide +kernel
        have w7 : wsum cs ts / G < 2 ^ 1200 := by omega
        have w8 : (wsum cs ts / G).natAbs < 2 ^ 1200 := by
          have : ((2 ^ 1200 : Nat) : Int) = (2 : Int) ^ 1200 := by simp
          omega
        exact Nat.lt_of_lt_of_le w8 (Nat.pow_le_pow_right (by decide) (by decide))
      have rB : r.natAbs < 2 ^ 150 := Nat.lt_of_le_of_lt (show r.natAbs ≤ (n / G).natAbs by omega) pB
      refine ⟨_, _, rfl, rfl, (wide_mul wB rB (by decide) (by decide) (by decide)).ok, _, rfl, _, _, rfl, rfl, (by show 0 < n / G; omega), ?_⟩
      dsimp only [gName]
      have xbw := xbz.trans (XB.of ewv)
      refine ⟨_, rfl, _, rfl, _, rfl, _, rfl, s, G, m, rfl, (srz.mono ewv).less (by omega), G0, Nat.lt_of_lt_of_le gB (Nat.pow_le_pow_right (by decide) (by decide)), fun k Hv k0 k1 xbv srv => ?_⟩
      have kB : k.natAbs < 2 ^ 150 := Nat.lt_of_le_of_lt (show k.natAbs ≤ G.natAbs by omega) gB
      refine ⟨_, _, rfl, rfl, (wide_mul pB kB (by decide) (by decide) (by decide)).ok, _, _, rfl, rfl, _, rfl, _, _, rfl, rfl, n0, ?_⟩
      refine ⟨_, rfl, slen rfl, ?_⟩
      (intro q nq; generalize hGq : upd _ q _ = Hu; have eHu := exG hGq nq; have hq := atG hGq; clear hGq)
      have nas2 : am ≠ s := hs.ne nam
      exact kk _ cs q am Hu (mod_lo n0) (mod_hi n0) ⟨amt.len, amt.pos, amt.sum, made amt.dvd hr⟩ (xbw.trans (xbv.trans (XB.of eHu))) (srv.mono eHu) hq (eHu _ _ (xbv _ _ nas2 (ewv _ _ (ez _ _ ham)))) nam
end

def optVI : Option Int → V
  | some i => .int i
  | none => .non
theorem Dq.isIB {K : PySem.W.Frag} {B : Addr → Prop} {H : Hp} {v : V} {d : PyData} (h : Dq B H v d) : ∃ t bi bb, TyX K H v t ∧ PySem.W.kitOne K t (.type "int") = some bi ∧ PySem.W.kitOne K t (.type "bool") = some bb ∧ (bi && !bb) = (intD d).isSome ∧ (bi = false → intD d = none) := by
  cases h with
  | int i => exact ⟨_, _, _, .base (.int i), kit_ty (r := true) (by decide +kernel), kit_ty (r := false) (by decide +kernel), rfl, fun z => by cases z⟩
  | non => exact ⟨_, _, _, .base .non, kit_ty (r := false) (by decide +kernel), kit_ty (r := false) (by decide +kernel), rfl, fun _ => rfl⟩
  | bl b => exact ⟨_, _, _, .base (.bl b), kit_ty (r := true) (by decide +kernel), kit_ty (r := true) (by decide +kernel), rfl, fun z => by cases z⟩
  | str x => exact ⟨_, _, _, .base (.str x), kit_ty (r := false) (by decide +kernel), kit_ty (r := false) (by decide +kernel), rfl, fun _ => rfl⟩
  | lst h _ _ => exact ⟨_, _, _, .base (.lst h), kit_ty (r := false) (by decide +kernel), kit_ty (r := false) (by decide +kernel), rfl, fun _ => rfl⟩
  | tup h _ => exact ⟨_, _, _, .base (.tup h), kit_ty (r := false) (by decide +kernel), kit_ty (r := false) (by decide +kernel), rfl, fun _ => rfl⟩
  | emp h => exact ⟨_, _, _, .base (.dK h), kit_ty (r := false) (by decide +kernel), kit_ty (r := false) (by decide +kernel), rfl, fun _ => rfl⟩
section
variable {P : Program} {w : World} {K : PySem.W.Frag} {mg : Str → Option Value} {base : Heap}
def sp_law_bad : Sp := fun vs H Q _ => ∃ (B : Addr → Prop) (n p : Int) (c : Nat) (g : Addr) (x : V) (ts : List Int) (d : PyData), vs = [.int n, .ref g, .int p, .int (c : Int), x] ∧ 1 ≤ n ∧ 0 ≤ p ∧ p < n ∧ n ≤ 10 ^ 45 ∧ c ≤ 1000 ∧ H g = some (.lst (ts.map V.int)) ∧ ts.length ≤ 100 ∧ (∀ t ∈ ts, 0 ≤ t ∧ t < n) ∧ Dq B H x d ∧ (∀ cs : List Int, d = .list (cs.map PyData.int) → ∀ x ∈ cs, x.natAbs < 2 ^ 5000) ∧
  ∀ H2, Ex H H2 → Q (optVI (dueS n ts p c d)) H2
theorem ok_law_bad (T : TX K mg) : FnOk P w K mg base CX0 1 T.f_law_bad T.fd_law_bad ["_law_ring", "_law_goals", "_law_spot", "_law_depth", "_law_amounts"] sp_law_bad := by
  refine T.F_law_bad.ok sc_law_bad (fun vs H Q E h => ?_) (fun cdv A outer s H vs Q E hr h => ?_)
  · obtain ⟨B, n, p, c, g, x, ts, d, rfl, _⟩ := h
    rfl
  · obtain ⟨B, n, p, c, g, x, ts, d, rfl, n1, p0, p1, nB, c1, hg, l100, inr, dq, bd, k⟩ := h
    refine ⟨_, (pss_cons (ps_if (PW.pt (pw_or (pt_not (pt_val (pe_callB call_isi (by rfl) T.z_isinstance (by decide +kernel) (pa_cons (pv 4) (pa_cons (pe_bltn (v := .ty "list") rfl T.z_list (by decide +kernel) rfl) pa_nil))))) (pw_or1 (pt_cmpR op_ne (pe_callB call_len_seq (by rfl) T.z_len (by decide +kernel) (pa_cons (pv 4) pa_nil)) (pe_callB call_len_seq (by rfl) T.z_len (by decide +kernel) (pa_cons (pv 1) pa_nil)) (nomark _))))) (pss_one (ps_ret (pe_un un_neg pe_int))) pss_nil) (pss_cons (ps_for PassesOwn.never rfl (CE.pi_e rfl T.z_enumerate (pa_cons (pv 4) pa_nil)) (pg_tup rfl (pgs_cons (pg_name (i := 5) sc_law_bad.nd rfl (Or.inl rfl)) (pgs_cons (pg_name (i := 6) sc_law_bad.nd rfl (Or.inl rfl)) pgs_nil))) (pss_one (ps_if (PW.pt (pw_or (pt_not (pt_val (pe_callB call_isi (by rfl) T.z_isinstance (by decide +kernel) (pa_cons (pv 6) (pa_cons (pe_bltn (v := .ty "int") rfl T.z_int (by decide +kernel) rfl) pa_nil))))) (pw_or (pt_val (pe_callB call_isi (by rfl) T.z_isinstance (by decide +kernel) (pa_cons (pv 6) (pa_cons (pe_bltn (v := .ty "bool") rfl T.z_bool (by decide +kernel) rfl) pa_nil)))) (pw_or1 (pt_cmpR op_lt (pv 6) pe_int (nomark _)))))) (pss_one (ps_ret (pv 5))) pss_nil))) (pss_cons (ps_if (pt_cmpR op_ne (pe_callB (cr_sum rfl) (by rfl) T.z_sum (by decide +kernel) (pa_cons (pv 4) pa_nil)) (pe_op op_shlW pe_int (pv 3)) (nomark _)) (pss_one (ps_ret (pe_callB call_len_seq (by rfl) T.z_len (by decide +kernel) (pa_cons (pv 1) pa_nil)))) pss_nil) (pss_cons (ps_set (i := 7) sc_law_bad.nd rfl (Or.inl rfl) (pe_callB (cr_sum rfl) (by rfl) T.z_sum (by decide +kernel) (pa_cons (pe_lc (own := [("_law_amount", 6), ("_law_goal", 8)]) (g := (gTup K 2 (gCons (gName 6) (gCons (gName 8) gNil)))) rfl sc_law_bad.nd (CZ.pi_z2 (fl := [false, false]) rfl (by rfl) T.z_zip (pa_cons (pv 4) (pa_cons (pv 1) pa_nil))) (blkOk_by (N := N_law_bad) (sc := defScope s_law_bad) (by decide +kernel)) (fun _ _ _ _ _ => (pg_tup rfl (pgs_cons (pg_name (i := 6) sc_law_bad.nd rfl (Or.inl rfl)) (pgs_cons (pg_name (i := 8) sc_law_bad.nd rfl (Or.inl rfl)) pgs_nil)))) (fun _ _ _ _ _ => pts_nil) (fun _ _ _ _ _ => (pe_op op_mulI (pv 6) (pv 8)))) pa_nil))) (pss_one (ps_ret (pe_ifExp (pt_cmpR op_eq (pe_op op_mod (pe_op op_sub (pv 7) (pe_op op_shlW (pv 2) (pv 3))) (pv 0)) pe_int (nomark _)) pe_non (pe_op op_add (pe_callB call_len_seq (by rfl) T.z_len (by decide +kernel) (pa_cons (pv 1) pa_nil)) pe_int)))))))), ?_⟩
    obtain ⟨ty, hty, hkit⟩ := dq.isL
    refine ⟨_, rfl, _, _, _, _, _, rfl, .ty _, hty, hkit, _, rfl, ?_⟩
    cases el : lstD d with
    | none =>
      refine itt rfl ?_
      have e : dueS n ts p c d = some (-1) := by
        unfold dueS cntDue
        rw [el]
      rw [e] at k
      exact ⟨_, rfl, k _ exr⟩
    | some ds =>
    refine itf rfl ?_
    obtain ⟨xa, xs, rfl, hxa, _, dall⟩ := dq.lstA el
    have lxs := dall.len
    have ed : cntDue ts.length d = if ds.length = ts.length then cntBad ds 0 else some (-1) := by unfold cntDue; rw [el]
    refine ⟨_, rfl, xa, _, rfl, .inl (SqL.of hxa), _, rfl, g, _, rfl, .inl (SqL.of hg), rfl, _, rfl, ?_⟩
    by_cases cl : ds.length = ts.length
    rotate_left
    · rw [if_neg cl] at ed
      refine itt (by rw [lxs, List.length_map]; simp; omega) ?_
      have e : dueS n ts p c d = some (-1) := by
        unfold dueS
        rw [ed]
      rw [e] at k
      exact ⟨_, rfl, k _ exr⟩
    rw [if_pos cl] at ed
    refine itf (by rw [lxs, List.length_map, cl]; simp) ?_
    dsimp only [tNext]
    refine ⟨_, rfl, (false, xa), rfl, ⟨_, sqL hxa⟩, ?_⟩
    refine for_it (CE.walk_e (xs := xs)) (fun i σ Hx => (∃ y6 y7 y8 y9 : Option V, σ = [some (.int n), some (.ref g), some (.int p), some (.int (c : Int)), some (.ref xa), y6, y7, y8, y9]) ∧ Ex H Hx ∧ cntBad ds 0 = cntBad (ds.drop i) i) ⟨⟨_, _, _, _, rfl⟩, exr, rfl⟩ (fun i σ Hx _ p => sqL (p.2.1 _ _ hxa)) ?_ ?_
    · rintro i x0 σ Ha Hb hi ⟨⟨y6, y7, y8, y9, rfl⟩, ex, hd⟩ ⟨Ta, x1, x2, rfl, hT, rfl, hx1, hx2⟩
      cases hx1
      obtain ⟨dw, hdw, qw0⟩ := dall.get hx2
      have eT := exn (o := .tup [.int (i : Nat), x2]) hT
      have E3 := ext ex eT
      have qw := qw0.mono E3
      have il := (List.getElem?_eq_some_iff.mp hdw).1
      have edr : ds.drop i = dw :: ds.drop (i + 1) := by
        rw [List.drop_eq_getElem_cons il]
        rw [List.getElem?_eq_getElem il] at hdw
        rw [Option.some.inj hdw]
      rw [edr] at hd
      replace hd : cntBad ds 0 = if atLeast (intD dw) 0 = true then cntBad (ds.drop (i + 1)) (i + 1) else some (i : Int) := hd
      refine ⟨Ta, _, rfl, SqT.of upd_same, rfl, _, _, rfl, _, _, rfl, rfl, ?_⟩
      obtain ⟨t, bi, bb, tx, ki, kb, e1, e2⟩ := qw.isIB (K := K)
      refine ⟨_, rfl, _, _, _, _, _, rfl, .ty _, tx, ki, ?_⟩
      refine ⟨_, rfl, ?_⟩
      cases bi with
      | false =>
        refine itt rfl ?_
        rw [e2 rfl] at hd
        replace hd : cntBad ds 0 = some (i : Int) := hd
        have e : dueS n ts p c d = some (i : Int) := by
          unfold dueS
          rw [ed, hd]
        rw [e] at k
        exact ⟨_, rfl, k _ E3⟩
      | true =>
      refine itf rfl ?_
      refine ⟨_, rfl, _, _, _, _, _, rfl, .ty _, tx, kb, _, rfl, ?_⟩
      cases bb with
      | true =>
        refine itt rfl ?_
        have e3 : intD dw = none := by
          cases h : intD dw with
          | none => rfl
          | some j => rw [h] at e1; cases e1
        rw [e3] at hd
        replace hd : cntBad ds 0 = some (i : Int) := hd
        have e : dueS n ts p c d = some (i : Int) := by
          unfold dueS
          rw [ed, hd]
        rw [e] at k
        exact ⟨_, rfl, k _ E3⟩
      | false =>
      refine itf rfl ?_
      obtain ⟨v, rfl, rfl⟩ : ∃ v : Int, dw = .int v ∧ x2 = .int v := by
        cases qw with
        | int v => exact ⟨v, rfl, rfl⟩
        | _ => cases e1
      replace hd : cntBad ds 0 = if decide (0 ≤ v) = true then cntBad (ds.drop (i + 1)) (i + 1) else some (i : Int) := hd
      refine ⟨_, rfl, _, _, rfl, rfl, _, rfl, ?_⟩
      by_cases ca : 0 ≤ v
      · rw [if_pos (decide_eq_true ca)] at hd
        refine itf (decide_eq_false (by omega)) ⟨⟨_, _, _, _, rfl⟩, E3, hd⟩
      · rw [if_neg (by simp [ca])] at hd
        refine itt (decide_eq_true (by omega)) ?_
        have e : dueS n ts p c d = some (i : Int) := by
          unfold dueS
          rw [ed, hd]
        rw [e] at k
        exact ⟨_, rfl, k _ E3⟩
    · rintro σ Hx ⟨⟨y6, y7, y8, y9, rfl⟩, ex, hd⟩
      rw [lxs, List.drop_length] at hd
      replace hd : cntBad ds 0 = none := hd
      obtain ⟨cs, rfl, pos⟩ := cntBad_none hd
      obtain rfl : d = .list (cs.map PyData.int) := by
        cases d with
        | list z => cases el; rfl
        | _ => cases el
      obtain ⟨xb, e, hxb, _⟩ := dq.intsL
      cases e
      have lc : cs.length = ts.length := by rw [← cl, List.length_map]
      have e : dueS n ts p c (.list (cs.map PyData.int)) = sumDue n ts p (2 ^ c) cs := by
        unfold dueS
        rw [ed, hd]
        show sumDue n ts p (2 ^ c) ((cs.map PyData.int).filterMap intD) = _
        rw [fm_ints]
      rw [e] at k
      have cB := bd cs rfl
      have tB : ∀ x ∈ ts, x.natAbs < 2 ^ 5000 := fun x hx => Nat.lt_of_lt_of_le (abs45 (inr x hx).1 (Int.le_trans (Int.le_of_lt (inr x hx).2) nB)) (Nat.pow_le_pow_right (by decide) (by decide))
      have hx2 := ex _ _ hxb
      have hg2 := ex _ _ hg
      refine ⟨_, rfl, xa, cs, rfl, SqL.of hx2, _, rfl, _, _, rfl, rfl, shl_ok (n := 1) (by decide) (by omega), ?_⟩
      have ed0 : (1 : Int) * 2 ^ (c : Int).toNat = 2 ^ c := by rw [Int.one_mul, Int.toNat_natCast]
      dsimp only
      rw [ed0]
      refine ⟨rfl, _, rfl, ?_⟩
      have zz : ∀ u v : Int, (decide (V.int u = V.int v)) = decide (u = v) := fun u v => by simp
      by_cases c2 : cs.sum = 2 ^ c
      rotate_left
      · refine itt (by rw [zz, decide_eq_false c2]; rfl) ?_
        refine ⟨_, rfl, g, _, rfl, .inl (SqL.of hg2), ?_⟩
        rw [List.length_map]
        have e3 : sumDue n ts p (2 ^ c) cs = some (ts.length : Int) := by
          unfold sumDue
          rw [if_neg c2]
        rw [e3] at k
        exact k _ ex
      refine itf (by rw [zz, decide_eq_true c2]; rfl) ?_
      refine ⟨_, rfl, _, rfl, [xa, g], rfl, rfl, all2 (sqL hx2) (sqL hg2), fun D hD => ?_⟩
      refine lc_vals (CZ.walk_rows (xss := [cs.map V.int, ts.map V.int]) (n := ts.length) (lens2 (by rw [List.length_map, lc]) (by rw [List.length_map]))) ((List.zipWith (fun w x => w * x) cs ts).map V.int) (by rw [List.length_map, List.length_zipWith, lc, Nat.min_self]) (by omega) hD (fun H3 e => .cons (sqL (e _ _ hx2)) (.cons (sqL (e _ _ hg2)) .nil)) ?_ (gmono_tup (gmono_cons gmono_name (gmono_cons gmono_name gmono_nil))) ?_
      · intro j y H6 H7 R hj e yy kk
        obtain ⟨Tb, p, d, rfl, hTb, rfl, hp, hdd⟩ := yints2 yy
        refine ⟨Tb, _, rfl, SqT.of upd_same, rfl, _, _, rfl, _, _, rfl, rfl, ?_⟩
        refine ⟨rfl, _, rfl, _, rfl, _, _, rfl, rfl, (wide_mul (cB p (List.mem_of_getElem? hp)) (tB d (List.mem_of_getElem? hdd)) (by decide) (by decide) (by decide)).ok, ?_⟩
        refine kk _ _ (exn hTb) ?_
        rw [List.getElem?_map, List.getElem?_zipWith, hp, hdd]
        rfl
      · intro H3 e3 hD3
        refine ⟨D, _, rfl, SqL.of hD3, ?_⟩
        dsimp only [gName]
        refine ⟨_, rfl, _, rfl, _, rfl, _, _, rfl, rfl, shl_ok (n := 150) (Nat.lt_of_lt_of_le (abs45 p0 (Int.le_trans (Int.le_of_lt p1) nB)) (by decide)) (by omega), _, _, rfl, rfl, _, rfl, _, _, rfl, rfl, (by omega), rfl, _, rfl, ?_⟩
        rw [Int.toNat_natCast]
        have em : (List.zipWith (fun w x => w * x) cs ts).sum - p * 2 ^ c = wsum cs ts - 2 ^ c * p := by rw [Int.mul_comm]; rfl
        rw [em]
        have Ex3 := ext ex e3
        by_cases c3 : (wsum cs ts - 2 ^ c * p) % n = 0
        · refine itt (by show decide (V.int ((wsum cs ts - 2 ^ c * p) % n) = V.int 0) = true; rw [zz]; exact decide_eq_true c3) ?_
          have e4 : sumDue n ts p (2 ^ c) cs = none := by
            unfold sumDue
            rw [if_pos c2, if_pos c3]
          rw [e4] at k
          exact k _ Ex3
        · refine itf (by show decide (V.int ((wsum cs ts - 2 ^ c * p) % n) = V.int 0) = false; rw [zz]; exact decide_eq_false c3) ?_
          have e4 : sumDue n ts p (2 ^ c) cs = some ((ts.length : Int) + 1) := by
            unfold sumDue
            rw [if_pos c2, if_neg c3]
          rw [e4] at k
          refine ⟨_, rfl, g, _, rfl, .inl (SqL.of (e3 _ _ hg2)), _, _, rfl, rfl, ?_⟩
          rw [List.length_map]
          exact k _ Ex3
end

/-! ### data that repr shows, empty dicts among them -/
structure Sx (n c : Nat) (d : PyData) : Prop where
  sh : d.showable = true
  len : d.shown.length ≤ c
  dep : d.depth ≤ n
theorem Sx.up {n m c e : Nat} {d : PyData} (h : Sx n c d) (a : n ≤ m) (b : c ≤ e) : Sx m e d := ⟨h.sh, Nat.le_trans h.len b, Nat.le_trans h.dep a⟩
theorem sx_int {i : Int} (h : i.natAbs < 2 ^ 300) : Sx 0 2000 (.int i) := by
  have hl : i.natAbs.log2 < 1920 := by
    by_cases z : i.natAbs = 0
    · rw [z]
      decide
    · exact (Nat.log2_lt z).mpr (Nat.lt_of_lt_of_le h (Nat.pow_le_pow_right (by decide) (by decide)))
  exact ⟨decide_eq_true hl, Nat.le_trans (int_text_len_1921 hl) (by decide), by simp only [PyData.depth]; omega⟩
theorem sx_none : Sx 0 2000 .none := ⟨rfl, by decide +kernel, by decide⟩
theorem sx_bool (b : Bool) : Sx 0 2000 (.bool b) := ⟨rfl, by cases b <;> decide +kernel, by simp only [PyData.depth]; omega⟩
theorem sx_one : Sx 0 2000 (.str "1") := ⟨rfl, by rw [PyData.shown_str]; decide +kernel, by simp only [PyData.depth]; omega⟩
theorem sx_emp : Sx 1 2000 (.dict []) := ⟨rfl, by simp only [PyData.shown, PyData.shownKv]; decide +kernel, by simp only [PyData.depth, PyData.depthKv]; omega⟩
theorem sx_all {n c : Nat} : ∀ {ds : List PyData}, (∀ d ∈ ds, Sx n c d) → PyData.showableAll ds = true ∧ PyData.depthAll ds ≤ n ∧ ((PyData.shownAll ds).map (·.length)).sum ≤ ds.length * c ∧ (PyData.shownAll ds).length = ds.length
  | [], _ => ⟨rfl, by simp only [PyData.depthAll]; omega, by simp [PyData.shownAll], rfl⟩
  | d :: ds, h => by
    obtain ⟨a, e, b⟩ := h d List.mem_cons_self
    obtain ⟨a2, b2, e2, l2⟩ := sx_all fun x hx => h x (List.mem_cons_of_mem _ hx)
    refine ⟨by simp only [PyData.showableAll, a, a2, Bool.and_true], by simp only [PyData.depthAll]; omega, ?_, by simp only [PyData.shownAll, List.length_cons, l2]⟩
    simp only [PyData.shownAll, List.map_cons, List.sum_cons, List.length_cons, Nat.succ_mul]
    omega
theorem sx_tuple {n c : Nat} {ds : List PyData} (h : ∀ d ∈ ds, Sx n c d) : Sx (n + 1) (ds.length * (c + 2) + 3) (.tuple ds) := by
  obtain ⟨a, b, e, l⟩ := sx_all h
  refine ⟨by simpa only [PyData.showable] using a, ?_, by simp only [PyData.depth]; omega⟩
  have := tupleText_len_le (PyData.shownAll ds)
  simp only [PyData.shown, Nat.mul_add] at *
  omega
theorem sx_list {n c : Nat} {ds : List PyData} (h : ∀ d ∈ ds, Sx n c d) : Sx (n + 1) (ds.length * (c + 2) + 3) (.list ds) := by
  obtain ⟨a, b, e, l⟩ := sx_all h
  refine ⟨by simpa only [PyData.showable] using a, ?_, by simp only [PyData.depth]; omega⟩
  have := listText_len_le (PyData.shownAll ds)
  simp only [PyData.shown, Nat.mul_add] at *
  omega
theorem big300 {i : Int} (h : i.natAbs ≤ 10 ^ 62) : i.natAbs < 2 ^ 300 := Nat.lt_of_le_of_lt h (by decide)
/-- counts, or what is handed for them -/
structure Good55 (d : PyData) : Prop where
  sx : Sx 2 250000 d
  bm : ∀ cs : List Int, d = .list (cs.map PyData.int) → ∀ x ∈ cs, x.natAbs < 2 ^ 5000
theorem sx_small {ds : List PyData} (l : ds.length ≤ 110) (h : ∀ d ∈ ds, Sx 1 2000 d) : Sx 2 250000 (.list ds) ∧ Sx 2 250000 (.tuple ds) := by
  have := Nat.mul_le_mul_right 2002 l
  exact ⟨(sx_list h).up (by decide) (by omega), (sx_tuple h).up (by decide) (by omega)⟩
/-- an entry of the counts -/
structure Ent (d : PyData) : Prop where
  sx : Sx 1 2000 d
  bm : ∀ i, intD d = some i → i.natAbs < 2 ^ 5000
theorem ent_int {i : Int} (h : i.natAbs < 2 ^ 300) : Ent (.int i) := ⟨(sx_int h).up (by decide) (by decide), fun j e => by cases e; exact Nat.lt_of_lt_of_le h (Nat.pow_le_pow_right (by decide) (by decide))⟩
theorem good55_list {ds : List PyData} (l : ds.length ≤ 110) (h : ∀ d ∈ ds, Ent d) : Good55 (.list ds) := by
  refine ⟨(sx_small l fun d hd => (h d hd).sx).1, fun cs e x hx => ?_⟩
  cases e
  exact (h (.int x) (List.mem_map.mpr ⟨x, hx, rfl⟩)).bm x rfl
theorem good55_ints {cs : List Int} (l : cs.length ≤ 110) (h : ∀ x ∈ cs, x.natAbs < 2 ^ 300) : Good55 (.list (cs.map PyData.int)) := good55_list (by rw [List.length_map]; exact l) fun d hd => by
  obtain ⟨x, hx, rfl⟩ := List.mem_map.mp hd
  exact ent_int (h x hx)
theorem DqAll.set {B : Addr → Prop} {H : Hp} {v : V} {d : PyData} (h : Dq B H v d) : ∀ {xs : List V} {ds : List PyData} (i : Nat), DqAll B H xs ds → DqAll B H (xs.set i v) (ds.set i d)
  | _, _, _, .nil => .nil
  | _, _, 0, .cons _ t => .cons h t
  | _, _, i + 1, .cons q t => .cons q (DqAll.set h i t)
theorem atI_some {α : Type} {xs : List α} {r : Int} (h0 : 0 ≤ r) (h1 : r < xs.length) : ∃ (k : Nat) (v : α), xs[k]? = some v ∧ atI xs r = some v := by
  obtain ⟨k, rfl⟩ := Int.eq_ofNat_of_zero_le h0
  have hk : k < xs.length := by omega
  exact ⟨k, xs[k], List.getElem?_eq_getElem hk, atI_cast (List.getElem?_eq_getElem hk)⟩
theorem emp_ne5 {s a : Addr} {H : Hp} {n : Nat} (src : Sr5 H s n) (h : H a = some (.dK [])) : a ≠ s := fun z => by
  obtain ⟨_, _, _, e, _⟩ := src
  rw [z, e] at h
  cases h
theorem good55_any {d : PyData} (h : Sx 2 250000 d) (t : ∀ ds, d ≠ .list ds) : Good55 d := ⟨h, fun cs e => absurd e (t _)⟩

section
variable {P : Program} {w : World} {K : PySem.W.Frag} {mg : Str → Option Value} {base : Heap}
def sp_law_changed : Sp := fun vs H Q _ => ∃ (s a : Addr) (cs : List Int) (m : Nat), vs = [.ref s, .ref a] ∧ Sr5 H s (m + 5) ∧ H a = some (.lst (cs.map V.int)) ∧ cs ≠ [] ∧ cs.length ≤ 100 ∧ (∀ x ∈ cs, 0 ≤ x ∧ x ≤ 2 ^ 200) ∧
  ∀ x d H2, Dq (· ≠ s) H2 x d → Good55 d → XB s H H2 → Sr5 H2 s m → Q x H2
theorem ok_law_changed (T : TX K mg) : FnOk P w K mg base CX0 2 T.f_law_changed T.fd_law_changed ["_law_source_here", "_law_amounts"] sp_law_changed := by
  refine T.F_law_changed.ok sc_law_changed (fun vs H Q E h => ?_) (fun cdv A outer s H vs Q E hr h => ?_)
  · obtain ⟨s, a, cs, m, rfl, _⟩ := h
    rfl
  · obtain ⟨s, a, cs, m, rfl, hs, ha, ne, l100, bd, k⟩ := h
    refine ⟨_, (pss_cons (ps_set (i := 2) sc_law_changed.nd rfl (Or.inl rfl) (pe_callTy call_list_of (by rfl) T.z_list (by decide +kernel) (pa_cons (pv 1) pa_nil))) (pss_cons (ps_par (i := 3) (j := 4) rfl sc_law_changed.nd rfl rfl (by decide) rfl rfl (pa_cons (pe_call (ok_law_take T) hr rfl T.m_law_take T.F_law_take.kp T.b_law_take .nil pass0 (pa_cons (pv 0) (pa_cons (pe_callB call_len_seq (by rfl) T.z_len (by decide +kernel) (pa_cons (pv 2) pa_nil)) pa_nil))) (pa_cons (pe_call (ok_law_take T) hr rfl T.m_law_take T.F_law_take.kp T.b_law_take .nil pass0 (pa_cons (pv 0) (pa_cons (pe_callB call_len_seq (by rfl) T.z_len (by decide +kernel) (pa_cons (pv 2) pa_nil)) pa_nil))) pa_nil)) (by rfl)) (pss_cons (ps_set (i := 5) sc_law_changed.nd rfl (Or.inl rfl) (pe_call (ok_law_take T) hr rfl T.m_law_take T.F_law_take.kp T.b_law_take .nil pass0 (pa_cons (pv 0) (pa_cons pe_int pa_nil)))) (pss_cons (ps_if (pt_cmpR op_lt (pv 5) pe_int (nomark _)) (pss_one (ps_asg (pe_op op_add (pe_ix ix_list (pv 2) (pv 3) (fun _ _ => rfl)) (pe_ix ix_list (pe_lst (pa_cons pe_int (pa_cons (pe_un un_neg pe_int) pa_nil))) (pv 5) (fun _ _ => rfl))) (pg_sub (pv 2) (pv 3) set_list))) (pss_one (ps_if (pt_cmpR op_lt (pv 5) pe_int (nomark _)) (pss_cons (ps_asg (pe_op op_sub (pe_ix ix_list (pv 2) (pv 3) (fun _ _ => rfl)) pe_int) (pg_sub (pv 2) (pv 3) set_list)) (pss_one (ps_asg (pe_op op_add (pe_ix ix_list (pv 2) (pv 4) (fun _ _ => rfl)) pe_int) (pg_sub (pv 2) (pv 4) set_list)))) (pss_one (ps_if (pt_cmpR op_eq (pv 5) pe_int (nomark _)) (pss_one (ps_asg (pe_tup (pa_cons (pe_ix ix_list (pv 2) (pv 4) (fun _ _ => rfl)) (pa_cons (pe_ix ix_list (pv 2) (pv 3) (fun _ _ => rfl)) pa_nil))) (pg_tup rfl (pgs_cons (pg_sub (pv 2) (pv 3) set_list) (pgs_cons (pg_sub (pv 2) (pv 4) set_list) pgs_nil))))) (pss_one (ps_if (pt_cmpR op_eq (pv 5) pe_int (nomark _)) (pss_one (ps_asg (pe_ix ix_list (pe_lst (pa_cons (pe_un un_neg pe_int) (pa_cons pe_bl (pa_cons pe_str (pa_cons pe_non (pa_cons pe_int (pa_cons (pe_op op_shlW pe_int pe_int) pa_nil))))))) (pe_call (ok_law_take T) hr rfl T.m_law_take T.F_law_take.kp T.b_law_take .nil pass0 (pa_cons (pv 0) (pa_cons pe_int pa_nil))) (fun _ _ => rfl)) (pg_sub (pv 2) (pv 3) set_list))) (pss_one (ps_if (pt_cmpR op_eq (pv 5) pe_int (nomark _)) (pss_one (ps_ret (pe_ix ix_list (pe_lst (pa_cons (pe_slice sl_list (pv 2) (po_some pe_int) po_none) (pa_cons (pe_op (r := rCatR K) op_catR (pv 2) (pe_lst (pa_cons pe_int pa_nil))) (pa_cons (pe_lst pa_nil) (pa_cons (pe_callTy call_tuple_of (by rfl) T.z_tuple (by decide +kernel) (pa_cons (pv 2) pa_nil)) (pa_cons pe_non (pa_cons pe_dnewK pa_nil))))))) (pe_call (ok_law_take T) hr rfl T.m_law_take T.F_law_take.kp T.b_law_take .nil pass0 (pa_cons (pv 0) (pa_cons pe_int pa_nil))) (fun _ _ => rfl)))) pss_nil))))))))) (pss_one (ps_ret (pv 2))))))), ?_⟩
    have lp : 0 < cs.length := List.length_pos_iff.mpr ne
    have b300 : ∀ x ∈ cs, x.natAbs ≤ 2 ^ 200 := fun x hx => by
      have := bd x hx
      have h2 : ((2 ^ 200 : Nat) : Int) = (2 : Int) ^ 200 := by simp
      omega
    refine ⟨_, rfl, a, _, rfl, .inl (SqL.of ha), fun f hf => ?_⟩
    have fns := hs.ne hf
    generalize hG : upd H f _ = H1
    have e1 := exG hG hf
    have hf1 := atG hG
    clear hG
    dsimp only [gName]
    have fin : ∀ (xs : List V) (ds : List PyData) (Hx : Hp), Hx f = some (.lst xs) → DqAll (· ≠ s) Hx xs ds → (∀ d ∈ ds, Ent d) → ds.length = cs.length → XB s H Hx → Sr5 Hx s m → Q (.ref f) Hx := fun xs ds Hx h1 h2 h3 h4 h5 h6 => k _ _ _ (.lst h1 fns h2) (good55_list (by omega) h3) h5 h6
    have fini : ∀ (ys : List Int) (Hx : Hp), Hx f = some (.lst (ys.map V.int)) → (∀ y ∈ ys, y.natAbs < 2 ^ 300) → ys.length = cs.length → XB s H Hx → Sr5 Hx s m → Q (.ref f) Hx := fun ys Hx h1 h2 h3 h4 h5 => fin _ _ Hx h1 (DqAll.ints ys) (fun d hd => by
      obtain ⟨x, hx, rfl⟩ := List.mem_map.mp hd
      exact ent_int (h2 x hx)) (by rw [List.length_map]; exact h3) h4 h5
    have lb : (cs.length : Int).natAbs < 2 ^ 8000 := Nat.lt_of_le_of_lt (show (cs.length : Int).natAbs ≤ 100 by omega) (by decide +kernel)
    refine ⟨_, rfl, _, rfl, f, _, rfl, .inl (SqL.of hf1), s, _, m + 4, by rw [List.length_map]; rfl, hs.mono e1, by omega, lb, fun i H2 i0 i1 xb2 s2 => ?_⟩
    have hf2 := xb2 _ _ fns hf1
    refine ⟨_, rfl, _, rfl, f, _, rfl, .inl (SqL.of hf2), s, _, m + 3, by rw [List.length_map]; rfl, s2, by omega, lb, fun j H3 j0 j1 xb3 s3 => ?_⟩
    have hf3 := xb3 _ _ fns hf2
    refine ⟨_, _, rfl, ?_⟩
    refine ⟨_, rfl, s, 9, m + 2, rfl, s3, by decide, by decide +kernel, fun way H4 w0 w1 xb4 s4 => ?_⟩
    have hf4 := xb4 _ _ fns hf3
    have X4 := (XB.of e1).trans (xb2.trans (xb3.trans xb4))
    obtain ⟨ci, mi, gi⟩ := at_ex (xs := cs) i0 i1
    obtain ⟨cj, mj, gj⟩ := at_ex (xs := cs) j0 j1
    obtain ⟨i, rfl⟩ := Int.eq_ofNat_of_zero_le i0
    obtain ⟨j, rfl⟩ := Int.eq_ofNat_of_zero_le j0
    have il : i < cs.length := by omega
    have jl : j < cs.length := by omega
    have two3 : (2 : Nat) ^ 200 + 5 < 2 ^ 300 := by decide
    have bi := b300 ci mi
    have bj := b300 cj mj
    have ball : ∀ x ∈ cs, x.natAbs < 2 ^ 300 := fun x hx => by
      have := b300 x hx
      omega
    generalize hP : 2 ^ 200 = P2 at *
    generalize hQ : 2 ^ 300 = P3 at *
    refine ⟨_, rfl, _, _, rfl, rfl, _, rfl, ite2 (fun c1 => ?_) (fun c1 => ?_)⟩
    · have c1 := of_decide_eq_true c1
      refine ⟨_, rfl, _, rfl, f, _, _, _, rfl, rfl, SqL.of hf4, gi, _, rfl, slen rfl, ?_⟩
      (intro lt nlt; generalize hGlt : upd _ lt _ = H5; have eH5 := exG hGlt nlt; have hlt := atG hGlt; clear hGlt)
      have hf5 := eH5 _ _ hf4
      obtain ⟨e, me, ge⟩ := at_ex (xs := [1, -1]) w0 (show way < 2 by omega)
      refine ⟨_, rfl, lt, _, _, _, rfl, rfl, SqL.of hlt, ge, _, _, rfl, rfl, _, rfl, _, rfl, f, _, _, i, rfl, rfl, hf5, by rw [List.length_map]; exact Evl.ixN_nat il, ?_⟩
      rw [set_map]
      refine ⟨_, rfl, fini _ _ upd_same (fun y hy => ?_) (by rw [List.length_set]) (XB.app5 (X4.trans (XB.of eH5)) hf) (((s4.mono eH5).app fns).less (by omega))⟩
      simp only [List.mem_cons, List.not_mem_nil, or_false] at me
      rcases mem_set_of hy with rfl | hy
      · omega
      · exact ball y hy
    refine ⟨_, rfl, _, _, rfl, rfl, _, rfl, ite2 (fun c2 => ?_) (fun c2 => ?_)⟩
    · have c2 := of_decide_eq_true c2
      refine ⟨_, rfl, _, rfl, f, _, _, _, rfl, rfl, SqL.of hf4, gi, _, _, rfl, rfl, _, rfl, _, rfl, f, _, _, i, rfl, rfl, hf4, by rw [List.length_map]; exact Evl.ixN_nat il, ?_⟩
      rw [set_map]
      have l2 : (cs.set i (ci - 1)).length = cs.length := List.length_set
      have b2 : ∀ x ∈ cs.set i (ci - 1), x.natAbs ≤ P2 + 1 := fun x hx => by
        rcases mem_set_of hx with rfl | hx
        · omega
        · have := b300 x hx
          omega
      generalize cs.set i (ci - 1) = ds at l2 b2
      generalize hG : upd H4 f _ = H5
      have hf5 : H5 f = some (.lst (ds.map V.int)) := by rw [← hG]; exact upd_same
      have X5 : XB s H H5 := by rw [← hG]; exact XB.app5 X4 hf
      have s5 : Sr5 H5 s (m + 2) := by rw [← hG]; exact s4.app fns
      clear hG
      obtain ⟨dj, mj2, gj2⟩ := at_ex (xs := ds) j0 (by omega)
      have bj2 := b2 dj mj2
      refine ⟨_, rfl, _, rfl, f, _, _, _, rfl, rfl, SqL.of hf5, gj2, _, _, rfl, rfl, _, rfl, _, rfl, f, _, _, j, rfl, rfl, hf5, by rw [List.length_map, l2]; exact Evl.ixN_nat jl, ?_⟩
      rw [set_map]
      refine ⟨_, rfl, fini _ _ upd_same (fun y hy => ?_) (by rw [List.length_set, l2]) (XB.app5 X5 hf) ((s5.app fns).less (by omega))⟩
      rcases mem_set_of hy with rfl | hy
      · omega
      · have := b2 y hy
        omega
    refine ⟨_, rfl, rfl, _, rfl, ite2 (fun c3 => ?_) (fun c3 => ?_)⟩
    ·
      refine ⟨_, rfl, _, rfl, f, _, _, _, rfl, rfl, SqL.of hf4, gj, _, rfl, _, rfl, f, _, _, _, rfl, rfl, SqL.of hf4, gi, slen rfl, ?_⟩
      (intro tt ntt; generalize hGtt : upd _ tt _ = H5; have eH5 := exG hGtt ntt; have htt := atG hGtt; clear hGtt)
      refine ⟨tt, _, rfl, SqT.of htt, rfl, ?_⟩
      have hf5 := eH5 _ _ hf4
      refine ⟨_, _, rfl, _, rfl, _, rfl, f, _, _, i, rfl, rfl, hf5, by rw [List.length_map]; exact Evl.ixN_nat il, ?_⟩
      rw [set_map]
      have l2 : (cs.set i cj).length = cs.length := List.length_set
      have b2 : ∀ x ∈ cs.set i cj, x.natAbs < P3 := fun x hx => by
        rcases mem_set_of hx with rfl | hx
        · omega
        · exact ball x hx
      generalize cs.set i cj = ds at l2 b2
      generalize hG : upd H5 f _ = H6
      have hf6 : H6 f = some (.lst (ds.map V.int)) := by rw [← hG]; exact upd_same
      have X6 : XB s H H6 := by rw [← hG]; exact XB.app5 (X4.trans (XB.of eH5)) hf
      have s6 : Sr5 H6 s (m + 2) := by rw [← hG]; exact (s4.mono eH5).app fns
      clear hG
      refine ⟨_, _, rfl, _, rfl, _, rfl, f, _, _, j, rfl, rfl, hf6, by rw [List.length_map, l2]; exact Evl.ixN_nat jl, ?_⟩
      rw [set_map]
      refine ⟨rfl, _, rfl, fini _ _ upd_same (fun y hy => ?_) (by rw [List.length_set, l2]) (XB.app5 X6 hf) ((s6.app fns).less (by omega))⟩
      rcases mem_set_of hy with rfl | hy
      · omega
      · exact b2 y hy
    refine ⟨_, rfl, rfl, _, rfl, ite2 (fun c4 => ?_) (fun c4 => ?_)⟩
    ·
      refine ⟨_, rfl, _, _, rfl, rfl, shl_ok (n := 1) (by decide) (by decide), slen rfl, ?_⟩
      (intro lt nlt; generalize hGlt : upd _ lt _ = H5; have eH5 := exG hGlt nlt; have hlt := atG hGlt; clear hGlt)
      have lts := s4.ne nlt
      have hf5 := eH5 _ _ hf4
      refine ⟨_, rfl, s, 6, m + 1, rfl, (s4.mono eH5).less (by omega), by decide, by decide +kernel, fun r H6 r0 r1 xb6 s6 => ?_⟩
      have hlt6 := xb6 _ _ lts hlt
      have hf6 := xb6 _ _ fns hf5
      obtain ⟨kk, x, hk, hx⟩ := atI_some (xs := [V.int (-1), V.bl true, V.str "1", V.non, V.int 0, V.int (1 * 2 ^ (70 : Int).toNat)]) r0 r1
      have all6 : DqAll (· ≠ s) (upd H6 f (.lst ((cs.map V.int).set i x))) [V.int (-1), V.bl true, V.str "1", V.non, V.int 0, V.int (1 * 2 ^ (70 : Int).toNat)] [.int (-1), .bool true, .str "1", .none, .int 0, .int (1 * 2 ^ (70 : Int).toNat)] := .cons (.int _) (.cons (.bl _) (.cons (.str _) (.cons .non (.cons (.int _) (.cons (.int _) .nil)))))
      obtain ⟨d, hd, qd⟩ := all6.get hk
      have ed : Ent d := by
        have := List.mem_of_getElem? hd
        simp only [List.mem_cons, List.not_mem_nil, or_false] at this
        rcases this with rfl | rfl | rfl | rfl | rfl | rfl
        · exact ent_int (by decide)
        · exact ⟨(sx_bool _).up (by decide) (by decide), fun _ e => by cases e⟩
        · exact ⟨sx_one.up (by decide) (by decide), fun _ e => by cases e⟩
        · exact ⟨sx_none.up (by decide) (by decide), fun _ e => by cases e⟩
        · exact ent_int (by decide)
        · exact ent_int (by decide)
      refine ⟨lt, _, _, _, rfl, rfl, SqL.of hlt6, hx, _, rfl, _, rfl, f, _, _, i, rfl, rfl, hf6, by rw [List.length_map]; exact Evl.ixN_nat il, ?_⟩
      refine ⟨_, rfl, fin _ _ _ upd_same ((DqAll.ints cs).set qd i) (fun e he => ?_) (by rw [List.length_set, List.length_map]) (XB.app5 (X4.trans ((XB.of eH5).trans xb6)) hf) ((s6.app fns).less (by omega))⟩
      rcases List.mem_or_eq_of_mem_set he with he | rfl
      · obtain ⟨y, hy, rfl⟩ := List.mem_map.mp he
        have := ball y hy
        exact ent_int (hQ ▸ this)
      · exact ed
    refine ⟨_, rfl, rfl, _, rfl, ite2 (fun c5 => ?_) (fun c5 => ?_)⟩
    ·
      refine ⟨_, rfl, 1, rfl, ?_⟩
      unfold tNoPart
      refine ⟨f, _, rfl, SqL.of hf4, fun sl nsl => ?_⟩
      rw [cut_tail]
      generalize hG : upd H4 sl _ = H5
      have e5 := exG hG nsl
      have hsl := atG hG
      clear hG
      have nss := s4.ne nsl
      refine ⟨_, rfl, slen rfl, ?_⟩
      (intro z1 nz1; generalize hGz1 : upd _ z1 _ = H6; have eH6 := exG hGz1 nz1; have hz1 := atG hGz1; clear hGz1)
      have hf6 := (ext e5 eH6) _ _ hf4
      refine ⟨f, z1, _, _, rfl, rfl, SqL.of hf6, SqL.of hz1, by rw [List.length_map]; exact Nat.le_trans (show cs.length + 1 ≤ 101 by omega) (by decide), fun ct nct => ?_⟩
      generalize hG : upd H6 ct _ = H7
      have e7 := exG hG nct
      have hct := atG hG
      clear hG
      have ncs := (s4.mono (ext e5 eH6)).ne nct
      have s7 := s4.mono (ext (ext e5 eH6) e7)
      refine ⟨slen rfl, ?_⟩
      (intro em nem; generalize hGem : upd _ em _ = H8; have eH8 := exG hGem nem; have hem := atG hGem; clear hGem)
      have nes := s7.ne nem
      have hf8 := (ext e7 eH8) _ _ hf6
      refine ⟨_, rfl, f, _, rfl, .inl ⟨SqL.of hf8, fun tp ntp => ?_⟩⟩
      generalize hG : upd H8 tp _ = H9
      have e9 := exG hG ntp
      have htp := atG hG
      clear hG
      intro dd ndd
      generalize hG : upd H9 dd _ = HA
      have eA := exG hG ndd
      have hdd := atG hG
      clear hG
      refine ⟨slen rfl, ?_⟩
      (intro lt nlt; generalize hGlt : upd _ lt _ = HB; have eHB := exG hGlt nlt; have hlt := atG hGlt; clear hGlt)
      have EB := ext (ext e5 eH6) (ext e7 (ext eH8 (ext e9 (ext eA eHB))))
      have sB := s4.mono EB
      have lts : lt ≠ s := (s4.mono (ext (ext e5 eH6) (ext e7 (ext eH8 (ext e9 eA))))).ne nlt
      refine ⟨_, rfl, s, 6, m + 1, rfl, sB.less (by omega), by decide, by decide +kernel, fun r HC r0 r1 xbC sC => ?_⟩
      have hltC := xbC _ _ lts hlt
      obtain ⟨kk, x, hk, hx⟩ := atI_some (xs := [V.ref sl, V.ref ct, V.ref em, V.ref tp, V.non, V.ref dd]) r0 r1
      have ze : cs.map V.int ++ [V.int 0] = (cs ++ [0]).map V.int := by rw [List.map_append]; rfl
      rw [ze] at hct
      have e7B := ext eH8 (ext e9 (ext eA eHB))
      have htpB := (ext eA eHB) _ _ htp
      have hddB := eHB _ _ hdd
      have toC : ∀ {v : V} {d : PyData}, Dq (· ≠ s) HB v d → Dq (· ≠ s) HC v d := fun q => q.to (fun a xs b h => ⟨xbC _ _ b h, b⟩) (fun a xs h => sB.tup h xbC) (fun a h => xbC _ _ (emp_ne5 sB h) h)
      have bt : ∀ x ∈ cs.tail, x.natAbs < P3 := fun x hx => ball x (List.mem_of_mem_tail hx)
      have all6 : ∀ v ∈ [V.ref sl, V.ref ct, V.ref em, V.ref tp, V.non, V.ref dd], ∃ d, Dq (· ≠ s) HB v d ∧ Good55 d := fun v hv => by
        subst hQ
        simp only [List.mem_cons, List.not_mem_nil, or_false] at hv
        rcases hv with rfl | rfl | rfl | rfl | rfl | rfl
        · exact ⟨_, .lst ((ext eH6 (ext e7 e7B)) _ _ hsl) nss (DqAll.ints _), good55_ints (by rw [List.length_tail]; omega) bt⟩
        · exact ⟨_, .lst (e7B _ _ hct) ncs (DqAll.ints _), good55_ints (by rw [List.length_append]; show cs.length + 1 ≤ 110; omega) fun x hx => by
            rcases List.mem_append.mp hx with hx | hx
            · exact ball x hx
            · rw [List.mem_singleton.mp hx]
              decide⟩
        · exact ⟨_, .lst ((ext e9 (ext eA eHB)) _ _ hem) nes .nil, good55_list (by decide) fun d hd => by cases hd⟩
        · exact ⟨_, .tup htpB (DqAll.ints _), good55_any (sx_small (by rw [List.length_map]; omega) fun d hd => by
            obtain ⟨x, hx, rfl⟩ := List.mem_map.mp hd
            exact (sx_int (ball x hx)).up (by decide) (by decide)).2 fun _ z => by cases z⟩
        · exact ⟨_, .non, good55_any (sx_none.up (by decide) (by decide)) fun _ z => by cases z⟩
        · exact ⟨_, .emp hddB, good55_any (sx_emp.up (by decide) (by decide)) fun _ z => by cases z⟩
      obtain ⟨d, qd, gd⟩ := all6 x (List.mem_of_getElem? hk)
      refine ⟨lt, _, _, _, rfl, rfl, SqL.of hltC, hx, ?_⟩
      exact k _ _ _ (toC qd) gd (X4.trans ((XB.of EB).trans xbC)) (sC.less (by omega))
    exact ⟨_, rfl, fini _ _ hf4 ball rfl X4 (s4.less (by omega))⟩
end

section
variable {P : Program} {w : World} {K : PySem.W.Frag} {mg : Str → Option Value} {base : Heap}
def sp_law_said : Sp := fun vs H Q _ => ∃ (B : Addr → Prop) (n p : Int) (c : Nat) (q : Bool × Addr) (x : V) (ts : List Int) (d : PyData), vs = [.int n, .ref q.2, .int p, .int (c : Int), x] ∧ 1 ≤ n ∧ 0 ≤ p ∧ p < n ∧ n.natAbs < 2 ^ 4000 ∧ c ≤ 1000 ∧ SqH H q (ts.map V.int) ∧ ts ≠ [] ∧ ts.length ≤ 100 ∧ (∀ t ∈ ts, 0 ≤ t ∧ t < n) ∧ ts.Nodup ∧ Dq B H x d ∧ (∀ cs : List Int, d = .list (cs.map PyData.int) → ∀ x ∈ cs, x.natAbs < 2 ^ 5000) ∧
  ∀ H2, Ex H H2 → Q (optVI (dueS n ts p c d)) H2
theorem ok_law_said (T : TX K mg) : FnOk P w K mg base CX0 6 T.f_law_said T.fd_law_said ["_law_ring", "_law_goals", "_law_spot", "_law_depth", "_law_amounts"] sp_law_said := by
  refine T.F_law_said.ok sc_law_said (fun vs H Q E h => ?_) (fun cdv A outer s H vs Q E hr h => ?_)
  · obtain ⟨B, n, p, c, q, x, ts, d, rfl, _⟩ := h
    rfl
  · obtain ⟨B, n, p, c, q, x, ts, d, rfl, n1, p0, p1, nB, c1, hq, ne, l100, inr, nod, dq, bd, k⟩ := h
    refine ⟨_, (pss_cons (ps_try_as1 (i := 6) rfl rfl sc_law_said.nd rfl rfl ⟨rfl, by decide, Or.inl T.m_InvalidWitness⟩ (fun W pn xe tk _ => pss_one (ps_set (i := 5) sc_law_said.nd rfl (Or.inl rfl) (by exact (pe_callS (okX_check_sum T) (hr.mono (by decide)) rfl T.m_check_sum T.F_check_sum.kp T.b_check_sum (fun σ => passAt tk σ) (pa_cons (pv 0) (pa_cons (pv 1) (pa_cons (pv 2) (pa_cons (pv 3) (pa_cons (pv 4) pa_nil))))))))) (fun a oe cls d pn hz hf => pss_one (ps_ret (by exact (pe_xf T.xf_InvalidWitness T.n_InvalidWitness_index hz hf (pv 6)))))) (pss_one (ps_ret (pe_ix ix_list (pe_lst (pa_cons pe_non (pa_cons pe_str pa_nil))) (pe_callTy call_int1 (by rfl) T.z_int (by decide +kernel) (pa_cons (pe_cmpR op_notN (pv 5) pe_non (nomark _)) pa_nil)) (fun _ _ => rfl))))), ?_⟩
    refine ⟨_, rfl, _, rfl, _, rfl, _, rfl, _, rfl, B, n, p, c, q, x, ts, d, rfl, n1, p0, p1, nB, c1, hq, ne, l100, inr, nod, dq, bd, fun hd H2 e2 => ?_, fun i hd dd H2 e2 hdd => ⟨T.em_InvalidWitness, fun ea na => ?_⟩⟩
    · rw [hd] at k
      dsimp only [gName]
      refine ⟨slen rfl, ?_⟩
      (intro rl nrl; generalize hGrl : upd _ rl _ = H3; have eH3 := exG hGrl nrl; have hrl := atG hGrl; clear hGrl)
      exact ⟨_, rfl, rfl, .inr ⟨_, rfl, rl, _, _, _, rfl, rfl, SqL.of hrl, L2.atI_nat (j := 0) rfl, k _ (ext e2 eH3)⟩⟩
    · rw [hd] at k
      refine ⟨_, rfl, rfl, rfl, dd, _, _, rfl, hdd, rfl, ?_⟩
      exact k _ e2
end

/-- a cut list of ints is one -/
theorem cut_map (ns : List Int) (lo hi : Option Int) : ∃ ms : List Int, cutV (ns.map V.int) lo hi = ms.map V.int := by
  refine ⟨(ns.drop (HT.sIx (ns.map V.int).length 0 lo)).take (HT.sIx (ns.map V.int).length (ns.map V.int).length hi - HT.sIx (ns.map V.int).length 0 lo), ?_⟩
  unfold cutV
  rw [List.map_take, List.map_drop]
theorem cut_len (xs : List V) (lo hi : Option Int) : (cutV xs lo hi).length ≤ xs.length := by
  unfold cutV
  rw [List.length_take, List.length_drop]
  omega
theorem sql_keep {K : PySem.W.Frag} {H1 H2 H3 : Hp} {s a : Addr} {xs : List V} (h : SqL K H1 a xs) (hs : H1 s = none) (e : Ex H1 H2) (xb : XB s H2 H3) : SqL K H3 a xs := by
  rcases h with h | h
  · refine .inl ?_
    rcases h with h | ⟨o, h⟩
    · exact .inl (xb _ _ (ne_of_none h hs) (e _ _ h))
    · exact .inr ⟨o, xb _ _ (ne_of_none h hs) (e _ _ h)⟩
  · exact .inr h
def optDI : Option Int → PyData
  | some i => .int i
  | none => .none
theorem opt_dp {K : PySem.W.Frag} {H : Hp} (o : Option Int) : Dp K H (optVI o) (optDI o) := by
  cases o with
  | none => exact .non
  | some i => exact .int i
theorem opt_sh (o : Option Int) : Sh 60 (optDI o) := by
  cases o with
  | none => exact ⟨rfl, by decide⟩
  | some i => exact sh_int i
theorem opt_eqv (o : Option Int) : PyData.eqv (optDI o) (optDI o) = true := by
  cases o with
  | none => simp [optDI, PyData.eqv]
  | some i => simp [optDI, PyData.eqv]
theorem sx_seq {ts : List Int} {b : Bool} (l : ts.length ≤ 100) (h : ∀ t ∈ ts, t.natAbs < 2 ^ 300) : Sx 2 250000 (if b = true then .tuple (ts.map PyData.int) else .list (ts.map PyData.int)) := by
  have := sx_small (ds := ts.map PyData.int) (by rw [List.length_map]; omega) fun d hd => by
    obtain ⟨x, hx, rfl⟩ := List.mem_map.mp hd
    exact (sx_int (h x hx)).up (by decide) (by decide)
  cases b with
  | false => exact this.1
  | true => exact this.2
theorem de_seq {K : PySem.W.Frag} {H : Hp} {q : Bool × Addr} {ts : List Int} (h : SqH H q (ts.map V.int)) : CG.De K H (.ref q.2) (if q.1 = true then .tuple (ts.map PyData.int) else .list (ts.map PyData.int)) := by
  obtain ⟨b, a⟩ := q
  cases b with
  | false => exact .lst (SqL.of h) (DqAll.de (B := fun _ => True) (DqAll.ints ts))
  | true => exact .tup (SqT.of h) (DqAll.de (B := fun _ => True) (DqAll.ints ts))
theorem sx_pair {d e : PyData} (h1 : Sx 2 250000 d) (h2 : Sx 2 250000 e) : Sx 3 600000 (.tuple [d, e]) := (sx_tuple (n := 2) (c := 250000) fun x hx => by
  simp only [List.mem_cons, List.not_mem_nil, or_false] at hx
  rcases hx with rfl | rfl
  · exact h1
  · exact h2).up (by decide) (by simp)
theorem cnt_good : ∀ {cs : List Int} {i : Nat}, (∀ x ∈ cs, 0 ≤ x) → cntBad (cs.map PyData.int) i = none
  | [], _, _ => rfl
  | c :: cs, i, h => by
    show (if decide (0 ≤ c) = true then cntBad (cs.map PyData.int) (i + 1) else some (i : Int)) = none
    rw [if_pos (decide_eq_true (h c List.mem_cons_self))]
    exact cnt_good fun x hx => h x (List.mem_cons_of_mem _ hx)
theorem due_good {n p : Int} {gs cs : List Int} {c : Nat} (h : SumAt n gs p c cs) : dueS n gs p c (.list (cs.map PyData.int)) = none := by
  have e1 : cntDue gs.length (.list (cs.map PyData.int)) = none := by
    show (if (cs.map PyData.int).length = gs.length then cntBad (cs.map PyData.int) 0 else some (-1)) = none
    rw [if_pos (by rw [List.length_map, h.len]), cnt_good h.pos]
  unfold dueS
  rw [e1]
  show sumDue n gs p (2 ^ c) ((cs.map PyData.int).filterMap intD) = none
  rw [fm_ints]
  unfold sumDue
  rw [if_pos h.sum, if_pos (Int.emod_eq_zero_of_dvd h.dvd)]
section
variable {P : Program} {w : World} {K : PySem.W.Frag} {mg : Str → Option Value} {base : Heap}
def sp_law (K : PySem.W.Frag) : Sp := fun vs H Q _ => ∃ (a : Addr) (ns : List Int), vs = [.ref a] ∧ SqL K H a (ns.map V.int) ∧ ns.length ≤ 63 ∧ ∀ H2, Q (.bl true) H2
theorem kb_check_sum_43210 {K : PySem.W.Frag} {mg : Str → Option Value} (T : TX K mg) : KBn K T.fd_check_sum ["size", "targets", "place", "calls", "counts"] 0 ["counts", "calls", "place", "targets", "size"] (fun us ws => pick [4, 3, 2, 1, 0] (us ++ ws)) (fun vs zs => pick [4, 3, 2, 1, 0] (vs ++ zs)) :=
  kbn_of T.F_check_sum 0 ["counts", "calls", "place", "targets", "size"] [4, 3, 2, 1, 0] fun _ _ _ _ _ _ us ws h1 h2 => match us, ws, h1, h2 with | [], [_, _, _, _, _], _, _ => rfl
theorem ok_law (T : TX K mg) : CG.FnOkG P w K mg base 7 T.f_law T.fd_law ["_law_script"] (sp_law K) := by
  refine CG.okG T.F_law sc_law (fun vs H Q E h => ?_) (fun cdv A outer s H vs Q E gd hr h => ?_)
  · obtain ⟨a, ns, rfl, _⟩ := h
    rfl
  · obtain ⟨a, ns, rfl, hS, hlen, k⟩ := h
    refine ⟨_, (pss_cons (ps_for PassesOwn.never rfl (pi_list (pe_op (r := rCatR K) op_catR (pe_lst (pa_cons (pe_call (ok_law_cell_at T) (hr.mono (by decide)) rfl T.m_law_cell_at T.F_law_cell_at.kp T.b_law_cell_at .nil pass0 (pa_cons (pv 0) (pa_cons pe_int pa_nil))) pa_nil)) (pe_slice sl_list (pv 0) (po_some pe_int) (po_some pe_int)))) (pg_name (i := 1) sc_law.nd rfl (Or.inl rfl)) (pss_cons (ps_set (i := 2) sc_law.nd rfl (Or.inl rfl) (pe_call (ok_law_source T) (hr.mono (by decide)) rfl T.m_law_source T.F_law_source.kp T.b_law_source .nil pass0 (pa_cons (pv 1) pa_nil))) (pss_cons (ps_set (i := 3) sc_law.nd rfl (Or.inl rfl) (pe_op op_shlW pe_int (pe_call (ok_law_take T) (hr.mono (by decide)) rfl T.m_law_take T.F_law_take.kp T.b_law_take .nil pass0 (pa_cons (pv 2) (pa_cons pe_int pa_nil))))) (pss_cons (ps_set (i := 4) sc_law.nd rfl (Or.inl rfl) (pe_lst (pa_cons (pe_op op_add pe_int (pe_call (ok_law_take T) (hr.mono (by decide)) rfl T.m_law_take T.F_law_take.kp T.b_law_take .nil pass0 (pa_cons (pv 2) (pa_cons pe_int pa_nil)))) (pa_cons (pe_op op_add pe_int (pe_call (ok_law_large T) (hr.mono (by decide)) rfl T.m_law_large T.F_law_large.kp T.b_law_large .nil pass0 (pa_cons (pv 2) (pa_cons (pe_op op_pow pe_int pe_int) pa_nil)))) pa_nil)))) (pss_cons (ps_set (i := 5) sc_law.nd rfl (Or.inl rfl) (pe_ix ix_list (pe_op (r := rCatR K) op_catR (pv 4) (pe_lst (pa_cons (pe_op op_mulI (pv 3) (pe_op op_add pe_int (pe_call (ok_law_large T) (hr.mono (by decide)) rfl T.m_law_large T.F_law_large.kp T.b_law_large .nil pass0 (pa_cons (pv 2) (pa_cons (pe_op op_pow pe_int pe_int) pa_nil))))) pa_nil))) (pe_call (ok_law_take T) (hr.mono (by decide)) rfl T.m_law_take T.F_law_take.kp T.b_law_take .nil pass0 (pa_cons (pv 2) (pa_cons pe_int pa_nil))) (fun _ _ => rfl))) (pss_cons (ps_set (i := 6) sc_law.nd rfl (Or.inl rfl) (pe_call (ok_law_targets T) (hr.mono (by decide)) rfl T.m_law_targets T.F_law_targets.kp T.b_law_targets .nil pass0 (pa_cons (pv 2) (pa_cons (pv 5) (pa_cons (pe_ix ix_list (pe_lst (pa_cons pe_int (pa_cons pe_int (pa_cons pe_int (pa_cons pe_int pa_nil))))) (pe_call (ok_law_take T) (hr.mono (by decide)) rfl T.m_law_take T.F_law_take.kp T.b_law_take .nil pass0 (pa_cons (pv 2) (pa_cons pe_int pa_nil))) (fun _ _ => rfl)) pa_nil))))) (pss_cons (ps_set (i := 7) sc_law.nd rfl (Or.inl rfl) (pe_ix ix_list (pe_lst (pa_cons (pe_call (ok_law_take T) (hr.mono (by decide)) rfl T.m_law_take T.F_law_take.kp T.b_law_take .nil pass0 (pa_cons (pv 2) (pa_cons pe_int pa_nil))) (pa_cons (pe_call (ok_law_take T) (hr.mono (by decide)) rfl T.m_law_take T.F_law_take.kp T.b_law_take .nil pass0 (pa_cons (pv 2) (pa_cons pe_int pa_nil))) (pa_cons (pe_call (ok_law_take T) (hr.mono (by decide)) rfl T.m_law_take T.F_law_take.kp T.b_law_take .nil pass0 (pa_cons (pv 2) (pa_cons pe_int pa_nil))) pa_nil)))) (pe_call (ok_law_take T) (hr.mono (by decide)) rfl T.m_law_take T.F_law_take.kp T.b_law_take .nil pass0 (pa_cons (pv 2) (pa_cons pe_int pa_nil))) (fun _ _ => rfl))) (pss_cons (ps_asg (pe_call (ok_law_made T) (hr.mono (by decide)) rfl T.m_law_made T.F_law_made.kp T.b_law_made .nil pass0 (pa_cons (pv 2) (pa_cons (pv 5) (pa_cons (pv 6) (pa_cons (pv 7) pa_nil))))) (pg_tup rfl (pgs_cons (pg_name (i := 8) sc_law.nd rfl (Or.inl rfl)) (pgs_cons (pg_name (i := 9) sc_law.nd rfl (Or.inl rfl)) pgs_nil)))) (pss_cons (ps_if (pt_cmpR op_notN (pe_call (ok_law_said T) hr rfl T.m_law_said T.F_law_said.kp T.b_law_said .nil pass0 (pa_cons (pv 5) (pa_cons (pv 6) (pa_cons (pv 8) (pa_cons (pv 7) (pa_cons (pv 9) pa_nil)))))) pe_non (nomark _)) (pss_one (ps_ret pe_bl)) pss_nil) (pss_cons (ps_for PassesOwn.never rfl (pi_range1 rfl T.z_range (pa_cons pe_int pa_nil)) (pg_name (i := 10) sc_law.nd rfl (Or.inl rfl)) (pss_cons (ps_set (i := 11) sc_law.nd rfl (Or.inl rfl) (pe_call (ok_law_changed T) (hr.mono (by decide)) rfl T.m_law_changed T.F_law_changed.kp T.b_law_changed .nil pass0 (pa_cons (pv 2) (pa_cons (pv 9) pa_nil)))) (pss_cons (ps_set (i := 12) sc_law.nd rfl (Or.inl rfl) (pe_ix ix_list (pe_lst (pa_cons (pv 8) (pa_cons (pv 8) (pa_cons (pv 8) (pa_cons (pe_call (ok_law_large T) (hr.mono (by decide)) rfl T.m_law_large T.F_law_large.kp T.b_law_large .nil pass0 (pa_cons (pv 2) (pa_cons (pv 5) pa_nil))) (pa_cons (pe_op op_mod (pe_op op_add (pv 8) pe_int) (pv 5)) pa_nil)))))) (pe_call (ok_law_take T) (hr.mono (by decide)) rfl T.m_law_take T.F_law_take.kp T.b_law_take .nil pass0 (pa_cons (pv 2) (pa_cons pe_int pa_nil))) (fun _ _ => rfl))) (pss_cons (ps_set (i := 13) sc_law.nd rfl (Or.inl rfl) (pe_callB (call_max2 rfl) (by rfl) T.z_max (by decide +kernel) (pa_cons pe_int (pa_cons (pe_op op_add (pv 7) (pe_ix ix_list (pe_lst (pa_cons pe_int (pa_cons pe_int (pa_cons pe_int (pa_cons pe_int (pa_cons (pe_un un_neg pe_int) pa_nil)))))) (pe_call (ok_law_take T) (hr.mono (by decide)) rfl T.m_law_take T.F_law_take.kp T.b_law_take .nil pass0 (pa_cons (pv 2) (pa_cons pe_int pa_nil))) (fun _ _ => rfl))) pa_nil)))) (pss_cons (ps_set (i := 14) sc_law.nd rfl (Or.inl rfl) (pe_ix ix_list (pe_lst (pa_cons (pv 6) (pa_cons (pe_callTy call_tuple_of (by rfl) T.z_tuple (by decide +kernel) (pa_cons (pv 6) pa_nil)) pa_nil))) (pe_call (ok_law_take T) (hr.mono (by decide)) rfl T.m_law_take T.F_law_take.kp T.b_law_take .nil pass0 (pa_cons (pv 2) (pa_cons pe_int pa_nil))) (fun _ _ => rfl))) (pss_cons (ps_set (i := 15) sc_law.nd rfl (Or.inl rfl) (pe_callB (CG.cr_reprE T.sysd gd (u65 hr)) (by rfl) T.z_repr (by decide +kernel) (pa_cons (pe_tup (pa_cons (pv 11) (pa_cons (pv 14) pa_nil))) pa_nil))) (pss_cons (ps_set (i := 16) sc_law.nd rfl (Or.inl rfl) (pe_call (ok_law_bad T) (hr.mono (by decide)) rfl T.m_law_bad T.F_law_bad.kp T.b_law_bad .nil pass0 (pa_cons (pv 5) (pa_cons (pv 6) (pa_cons (pv 12) (pa_cons (pv 13) (pa_cons (pv 11) pa_nil))))))) (pss_one (ps_if (PW.pt (pw_or (pt_cmpR (r := rNeD K) (op_neD hr.units) (pe_call (ok_law_said T) hr rfl T.m_law_said T.F_law_said.kp T.b_law_said .nil pass0 (pa_cons (pv 5) (pa_cons (pv 14) (pa_cons (pv 12) (pa_cons (pv 13) (pa_cons (pv 11) pa_nil)))))) (pv 16) (nomark _)) (pw_or1 (pt_cmpR op_ne (pe_callB (CG.cr_reprE T.sysd gd (u65 hr)) (by rfl) T.z_repr (by decide +kernel) (pa_cons (pe_tup (pa_cons (pv 11) (pa_cons (pv 14) pa_nil))) pa_nil)) (pv 15) (nomark _))))) (pss_one (ps_ret pe_bl)) pss_nil))))))))) (pss_one (ps_if (pt_cmpR op_notN (pe_callKw (ok_check_sum T) (hr.mono (by decide)) rfl T.m_check_sum T.F_check_sum.kp (kb_check_sum_43210 T) pass0 (pk_cons (pv 9) (pk_cons (pv 7) (pk_cons (pv 8) (pk_cons (pv 6) (pk_cons (pv 5) pk_nil)))))) pe_non (nomark _)) (pss_one (ps_ret pe_bl)) pss_nil)))))))))))) (pss_one (ps_ret pe_bl))), ?_⟩
    refine ⟨_, rfl, a, ns, 0, rfl, hS, by decide, fun i0 => ⟨by show 1 ≤ sizeLine; decide, fun b hb => ?_⟩⟩
    have e1 := exn (o := .lst [.int i0]) hb
    refine ⟨_, rfl, 1, rfl, 3, rfl, a, _, rfl, Evl.ex_l e1 hS, fun c hc => ?_⟩
    obtain ⟨ms, em⟩ := cut_map ns (some 1) (some 3)
    have ml : (ms.map V.int).length ≤ 63 := by
      rw [← em]
      exact Nat.le_trans (cut_len _ _ _) (by rw [List.length_map]; exact hlen)
    rw [em] at *
    refine ⟨b, c, _, _, rfl, rfl, SqL.of (exn hc _ _ upd_same), SqL.of upd_same, ?_, fun d hd => ?_⟩
    · exact Nat.le_trans (show 1 + _ ≤ 64 by omega) (by decide)
    have eAll : Ex H (upd (upd (upd H b (.lst [.int i0])) c (.lst (ms.map V.int))) d (.lst ([V.int i0] ++ ms.map V.int))) := ext e1 (ext (exn hc) (exn hd))
    refine ⟨d, rfl, ⟨_, SqL.of upd_same⟩, ?_⟩
    refine for_it (walk_list (xs := (i0 :: ms).map V.int)) (fun i σ Hx => (∃ y1 y2 y3 y4 y5 y6 y7 y8 y9 y10 y11 y12 y13 y14 y15 y16, σ = [some (.ref a), y1, y2, y3, y4, y5, y6, y7, y8, y9, y10, y11, y12, y13, y14, y15, y16]) ∧ Hx d = some (.lst ((i0 :: ms).map V.int))) ⟨⟨_, _, _, _, _, _, _, _, _, _, _, _, _, _, _, _, rfl⟩, upd_same⟩ (fun i σ H _ p => SqL.of p.2) ?_ (fun σ Hx _ => k _)
    rintro i x σ _ H1 hi ⟨⟨y1, y2, y3, y4, y5, y6, y7, y8, y9, y10, y11, y12, y13, y14, y15, y16, rfl⟩, hd1⟩ ⟨rfl, hx⟩
    obtain ⟨n, _, rfl⟩ := map_get hx
    dsimp only [gName]
    refine ⟨_, rfl, _, rfl, fun H2 s e2 hs src => ?_⟩
    have nd : d ≠ s := ne_of_none hd1 hs
    dsimp only [gName]
    refine ⟨_, rfl, s, 30, 300000, rfl, src.less (by decide), by decide, by decide +kernel, fun r1 H3 r10 r11 xb3 s3 => ?_⟩
    obtain ⟨ep, rfl⟩ := Int.eq_ofNat_of_zero_le r10
    refine ⟨1, ep, rfl, rfl, shl_ok (n := 1) (by decide) (by omega), ?_⟩
    have epw : (1 : Int) * 2 ^ (ep : Int).toNat = 2 ^ (ep : Int).toNat := Int.one_mul _
    have pw0 : (0 : Int) < 2 ^ (ep : Int).toNat := Int.pow_pos (by decide)
    have pw1 : (2 : Int) ^ (ep : Int).toNat ≤ 2 ^ 29 := by
      have h : 2 ^ (ep : Int).toNat ≤ 2 ^ 29 := Nat.pow_le_pow_right (by decide) (by omega)
      have h2 : ((2 ^ (ep : Int).toNat : Nat) : Int) = (2 : Int) ^ (ep : Int).toNat := by simp
      have h3 : ((2 ^ 29 : Nat) : Int) = (2 : Int) ^ 29 := by simp
      omega
    dsimp only [gName]
    rw [epw]
    generalize (2 : Int) ^ (ep : Int).toNat = pw at pw0 pw1
    refine ⟨_, rfl, s, 40, 299999, rfl, s3.less (by decide), by decide, by decide +kernel, fun r2 H4 r20 r21 xb4 s4 => ⟨_, _, rfl, rfl, ?_⟩⟩
    refine ⟨_, rfl, _, _, rfl, rfl, ⟨by decide, by decide, by decide⟩, s, 10 ^ 30, 299995, rfl, s4.less (by decide), by decide, fun r3 H5 r30 r31 xb5 s5 => ⟨_, _, rfl, rfl, slen rfl, ?_⟩⟩
    (intro lr nlr; generalize hGlr : upd _ lr _ = H6; have eH6 := exG hGlr nlr; have hlr := atG hGlr; clear hGlr)
    have nlrs := s5.ne nlr
    have s6 := s5.mono eH6
    refine ⟨_, rfl, _, rfl, _, rfl, _, _, rfl, rfl, ⟨by decide, by decide, by decide⟩, s, 10 ^ 20, 299991, rfl, s6.less (by decide), by decide, fun r4 H7 r40 r41 xb7 s7 => ⟨_, _, rfl, rfl, _, _, rfl, rfl, mul_ok (.inl (by omega)), slen rfl, ?_⟩⟩
    (intro lq nlq; generalize hGlq : upd _ lq _ = H8; have eH8 := exG hGlq nlq; have hlq := atG hGlq; clear hGlq)
    have hlr8 := eH8 _ _ (xb7 _ _ nlrs hlr)
    refine ⟨lr, lq, _, _, rfl, rfl, SqL.of hlr8, SqL.of hlq, slen rfl, fun lw nlw => ?_⟩
    generalize hG : upd H8 lw _ = H9
    have e9 := exG hG nlw
    have hlw := atG hG
    clear hG
    have s9 := s7.mono (ext eH8 e9)
    have nlws := (s7.mono eH8).ne nlw
    refine ⟨_, rfl, s, 3, 299990, rfl, s9, by decide, by decide +kernel, fun r5 HA r50 r51 xbA sA => ?_⟩
    have hlwA := xbA _ _ nlws hlw
    obtain ⟨ring, mring, gring⟩ := at_ex (xs := [1 + r2, 1 + r3, pw * (1 + r4)]) r50 r51
    have rg : 1 ≤ ring ∧ ring ≤ 10 ^ 30 := by
      simp only [List.mem_cons, List.not_mem_nil, or_false] at mring
      rcases mring with rfl | rfl | rfl
      · omega
      · omega
      · have h1 : pw * 1 ≤ pw * (1 + r4) := Int.mul_le_mul_of_nonneg_left (by omega) (by omega)
        have h2 : pw * (1 + r4) ≤ 2 ^ 29 * (1 + r4) := Int.mul_le_mul_of_nonneg_right pw1 (by omega)
        have h3 : (2 : Int) ^ 29 * (1 + r4) ≤ 2 ^ 29 * 10 ^ 20 := Int.mul_le_mul_of_nonneg_left (by omega) (by decide)
        omega
    refine ⟨lw, _, _, _, rfl, rfl, SqL.of hlwA, gring, ?_⟩
    clear mring gring
    obtain ⟨n1, nB⟩ := rg
    dsimp only [gName]
    have XA : XB s H2 HA := xb3.trans (xb4.trans (xb5.trans ((XB.of eH6).trans (xb7.trans ((XB.of (ext eH8 e9)).trans xbA)))))
    clear hlwA hlw hlr8 hlq hlr
    refine ⟨_, rfl, _, rfl, slen rfl, ?_⟩
    (intro la nla; generalize hGla : upd _ la _ = HB; have eHB := exG hGla nla; have hla := atG hGla; clear hGla)
    have nlas := sA.ne nla
    refine ⟨_, rfl, s, 4, 299000, rfl, (sA.mono eHB).less (by decide), by decide, by decide +kernel, fun r6 HC r60 r61 xbC sC => ?_⟩
    obtain ⟨v6, m6, g6⟩ := at_ex (xs := [6, 6, 6, 40]) r60 r61
    have b6 : 1 ≤ v6 ∧ v6 ≤ 100 := by
      simp only [List.mem_cons, List.not_mem_nil, or_false] at m6
      omega
    refine ⟨la, _, _, _, rfl, rfl, SqL.of (xbC _ _ nlas hla), g6, s, ring, v6, 298000, rfl, sC.less (by decide), by omega, b6.1, b6.2, fun l ts HD nl hl ne lt inr nod xbD sD => ?_⟩
    have nls := sC.ne nl
    have XD := XA.trans ((XB.of eHB).trans (xbC.trans xbD))
    clear hla g6 m6 b6
    dsimp only [gName]
    refine ⟨_, rfl, s, 13, 297000, rfl, sD.less (by decide), by decide, by decide +kernel, fun d1 HE d10 d11 xbE sE => ?_⟩
    refine ⟨_, rfl, s, 4, 296000, rfl, sE.less (by decide), by decide, by decide +kernel, fun d2 HF d20 d21 xbF sF => ?_⟩
    refine ⟨_, rfl, s, 201, 295000, rfl, sF.less (by decide), by decide, by decide +kernel, fun d3 HG d30 d31 xbG sG => ⟨slen rfl, ?_⟩⟩
    (intro lc nlc; generalize hGlc : upd _ lc _ = HH; have eHH := exG hGlc nlc; have hlc := atG hGlc; clear hGlc)
    have nlcs := sG.ne nlc
    refine ⟨_, rfl, s, 3, 294000, rfl, (sG.mono eHH).less (by decide), by decide, by decide +kernel, fun r7 HI r70 r71 xbI sI => ?_⟩
    obtain ⟨dp, md, gd2⟩ := at_ex (xs := [d1, d2, d3]) r70 r71
    have bd : 0 ≤ dp ∧ dp ≤ 200 := by
      simp only [List.mem_cons, List.not_mem_nil, or_false] at md
      omega
    refine ⟨lc, _, _, _, rfl, rfl, SqL.of (xbI _ _ nlcs hlc), gd2, ?_⟩
    obtain ⟨c, rfl⟩ := Int.eq_ofNat_of_zero_le bd.1
    have c2 : c ≤ 200 := by omega
    have XI := xbE.trans (xbF.trans (xbG.trans ((XB.of eHH).trans xbI)))
    have hlI := XI _ _ nls hl
    have X2 := XD.trans XI
    clear hlc gd2 md bd
    dsimp only [gName]
    refine ⟨_, rfl, _, rfl, _, rfl, _, rfl, s, l, ring, c, 280000, ts, rfl, sI.less (by decide), by omega, Int.le_trans nB (by decide), by omega, hlI, nls, ne, lt, inr, fun p cs q a2 HJ p0 p1 sum xbJ sJ hq ha2 na2 => ?_⟩
    have na2s : a2 ≠ s := sI.ne na2
    refine ⟨q, _, rfl, SqT.of hq, rfl, _, _, rfl, _, _, rfl, rfl, ?_⟩
    have hlJ := xbJ _ _ nls hlI
    have X3 := X2.trans xbJ
    have n40 : ring.natAbs < 2 ^ 4000 := Nat.lt_of_lt_of_le (abs45 (by omega) (Int.le_trans nB (by decide))) (Nat.pow_le_pow_right (by decide) (by decide))
    have cb : ∀ x ∈ cs, 0 ≤ x ∧ x ≤ 2 ^ 200 := fun x hx => by
      have h1 := le_sum sum.pos x hx
      rw [sum.sum] at h1
      exact ⟨sum.pos x hx, Int.le_trans h1 (pow2_le c2)⟩
    have cb3 : ∀ x ∈ cs, x.natAbs < 2 ^ 300 := fun x hx => by
      have h1 := cb x hx
      have h2 : ((2 ^ 200 : Nat) : Int) = (2 : Int) ^ 200 := by simp
      have h3 : (2 : Nat) ^ 200 < 2 ^ 300 := by decide
      omega
    have tb3 : ∀ x ∈ ts, x.natAbs < 2 ^ 300 := fun x hx => by
      have h1 := inr x hx
      have h3 : (10 : Nat) ^ 30 < 2 ^ 300 := by decide
      omega
    have gdG : Good55 (.list (cs.map PyData.int)) := good55_ints (by rw [sum.len]; omega) cb3
    have cne : cs ≠ [] := fun z => ne (List.length_eq_zero_iff.mp (by rw [← sum.len, z]; rfl))
    refine ⟨_, rfl, _, rfl, _, rfl, _, rfl, _, rfl, fun z => z ≠ s, ring, p, c, (false, l), .ref a2, ts, _, rfl, n1, p0, p1, n40, by omega, hlJ, ne, lt, inr, nod, .lst ha2 na2s (DqAll.ints cs), gdG.bm, fun HK eK => ?_⟩
    rw [due_good sum]
    refine ⟨rfl, _, rfl, itf rfl ?_⟩
    dsimp only [tNext]
    refine ⟨9, rfl, by decide, by decide, ?_⟩
    have hdK : HK d = some (.lst ((i0 :: ms).map V.int)) := eK _ _ (X3 _ _ nd (e2 _ _ hd1))
    have hlK := eK _ _ hlJ
    have haK := eK _ _ ha2
    have sK := sJ.mono eK
    refine for_it walk_range (fun i σ Hx => (∃ y10 y11 y12 y13 y14 y15 y16, σ = [some (.ref a), some (.int n), some (.ref s), some (.int pw), some (.ref lr), some (.int ring), some (.ref l), some (.int (c : Int)), some (.int p), some (.ref a2), y10, y11, y12, y13, y14, y15, y16]) ∧ XB s HK Hx ∧ Sr5 Hx s (200000 - 100 * i)) ⟨⟨_, _, _, _, _, _, _, rfl⟩, XB.refl, sK.less (by decide)⟩ (fun _ _ _ _ _ => True.intro) ?_ ?_
    · rintro i x σ _ Hx hi ⟨⟨y10, y11, y12, y13, y14, y15, y16, rfl⟩, xbx, sx⟩ ⟨rfl, rfl⟩
      have hi9 : i < 9 := hi
      have hax := xbx _ _ na2s haK
      dsimp only [gName]
      refine ⟨_, rfl, _, rfl, s, a2, cs, 200000 - 100 * (i + 1) + 20, rfl, sx.less (by omega), hax, cne, by rw [sum.len]; omega, cb, fun x dt HL dq gd2 xbL sL => ?_⟩
      dsimp only [gName]
      refine ⟨_, rfl, _, rfl, _, rfl, _, rfl, _, rfl, s, ring, 200000 - 100 * (i + 1) + 16, rfl, sL, by omega, fun r8 HM r80 r81 xbM sM => ⟨_, rfl, _, _, rfl, rfl, _, rfl, _, _, rfl, rfl, (by show (0 : Int) < ring; omega), slen rfl, ?_⟩⟩
      (intro lm nlm; generalize hGlm : upd _ lm _ = HN; have eHN := exG hGlm nlm; have hlm := atG hGlm; clear hGlm)
      have nlm := sM.ne nlm
      refine ⟨_, rfl, s, 5, 200000 - 100 * (i + 1) + 15, rfl, (sM.mono eHN).less (by omega), by decide, by decide +kernel, fun r9 Hp1 r90 r91 xbO sO => ?_⟩
      obtain ⟨hr, mh, gh⟩ := at_ex (xs := [p, p, p, r8, (p + 1) % ring]) r90 r91
      have bh : 0 ≤ hr ∧ hr < ring := by
        have q1 := Int.emod_nonneg (p + 1) (show ring ≠ 0 by omega)
        have q2 := Int.emod_lt_of_pos (p + 1) (show 0 < ring by omega)
        simp only [List.mem_cons, List.not_mem_nil, or_false] at mh
        rcases mh with rfl | rfl | rfl | rfl | rfl <;> exact ⟨by omega, by omega⟩
      refine ⟨lm, _, _, _, rfl, rfl, SqL.of (xbO _ _ nlm hlm), gh, ?_⟩
      dsimp only [gName]
      refine ⟨_, rfl, _, rfl, slen rfl, ?_⟩
      (intro lo nlo; generalize hGlo : upd _ lo _ = Hp2; have eHp2 := exG hGlo nlo; have hlo := atG hGlo; clear hGlo)
      have nlo := sO.ne nlo
      refine ⟨_, rfl, s, 5, 200000 - 100 * (i + 1) + 14, rfl, (sO.mono eHp2).less (by omega), by decide, by decide +kernel, fun r10 HQ q0 q1 xbQ sQ => ?_⟩
      obtain ⟨df, mf, gf⟩ := at_ex (xs := [0, 0, 0, 1, -1]) q0 q1
      have bf : -1 ≤ df ∧ df ≤ 1 := by
        simp only [List.mem_cons, List.not_mem_nil, or_false] at mf
        omega
      refine ⟨lo, _, _, _, rfl, rfl, SqL.of (xbQ _ _ nlo hlo), gf, _, _, rfl, rfl, _, _, rfl, ?_⟩
      dsimp only [gName]
      generalize hfar : (if (0 : Int) < (c : Int) + df then (c : Int) + df else 0) = far
      obtain ⟨fr, f1, rfl⟩ : ∃ fr : Nat, fr ≤ 1000 ∧ far = (fr : Int) := ⟨far.toNat, by subst hfar; split <;> omega, by subst hfar; split <;> omega⟩
      clear hfar
      have sQ2 := sQ
      have XQ : XB s HL HQ := xbM.trans ((XB.of eHN).trans (xbO.trans ((XB.of eHp2).trans xbQ)))
      have hlQ := XQ _ _ nls (xbL _ _ nls (xbx _ _ nls hlK))
      refine ⟨_, rfl, _, rfl, l, _, rfl, .inl ⟨SqL.of hlQ, fun tg ntg => ?_⟩⟩
      generalize hG : upd HQ tg _ = HR
      have eR := exG hG ntg
      have htg := atG hG
      clear hG
      refine ⟨slen rfl, ?_⟩
      (intro lp nlp; generalize hGlp : upd _ lp _ = HS; have eHS := exG hGlp nlp; have hlp := atG hGlp; clear hGlp)
      have nlp := (sQ.mono eR).ne nlp
      have sS := sQ.mono (ext eR eHS)
      refine ⟨_, rfl, s, 2, 200000 - 100 * (i + 1) + 13, rfl, sS.less (by omega), by decide, by decide +kernel, fun r11 HT t0 t1 xbT sT => ?_⟩
      have h2 : r11 = 0 ∨ r11 = 1 := by omega
      have hlpT := xbT _ _ nlp hlp
      obtain ⟨qq, gq, sq⟩ : ∃ qq : Bool × Addr, atI [V.ref l, V.ref tg] r11 = some (.ref qq.2) ∧ SqH HT qq (ts.map V.int) := by
        rcases h2 with rfl | rfl
        · exact ⟨(false, l), rfl, xbT _ _ nls ((ext eR eHS) _ _ hlQ)⟩
        · exact ⟨(true, tg), rfl, sS.tup (eHS _ _ htg) xbT⟩
      refine ⟨lp, _, _, _, rfl, rfl, SqL.of hlpT, gq, ?_⟩
      have XT : XB s HL HT := XQ.trans ((XB.of (ext eR eHS)).trans xbT)
      have dqT : Dq (· ≠ s) HT x dt := dq.to (fun a xs b h => ⟨XT _ _ b h, b⟩) (fun a xs h => sL.tup h XT) (fun a h => XT _ _ (emp_ne5 sL h) h)
      have hlT := XT _ _ nls (xbL _ _ nls (xbx _ _ nls hlK))
      have sxx := sx_pair gd2.sx (sx_seq (b := qq.1) lt tb3)
      dsimp only [gName]
      refine ⟨_, rfl, _, rfl, slen rfl, ?_⟩
      (intro tp ntp; generalize hGtp : upd _ tp _ = HU; have eHU := exG hGtp ntp; have htp := atG hGtp; clear hGtp)
      refine ⟨tp, _, rfl, .tup (SqT.of htp) (.cons (dqT.mono eHU).de (.cons (de_seq (sq.mono eHU)) .nil)), sxx.sh, Nat.le_trans sxx.len (by decide), Nat.le_trans sxx.dep (by decide), ?_⟩
      dsimp only [gName]
      refine ⟨_, rfl, _, rfl, _, rfl, _, rfl, _, rfl, (· ≠ s), ring, hr, fr, l, x, ts, dt, rfl, n1, bh.1, bh.2, Int.le_trans nB (by decide), f1, eHU _ _ hlT, lt, inr, dqT.mono eHU, gd2.bm, fun HV eV => ?_⟩
      have EV := ext eHU eV
      dsimp only [gName]
      refine ⟨_, rfl, _, rfl, _, rfl, _, rfl, _, rfl, (· ≠ s), ring, hr, fr, qq, x, ts, dt, rfl, n1, bh.1, bh.2, n40, f1, sq.mono EV, ne, lt, inr, nod, dqT.mono EV, gd2.bm, fun HW eW => ?_⟩
      have EW := ext EV eW
      refine ⟨_, rfl, _, _, opt_dp _, opt_dp _, (opt_sh _).ok, (opt_sh _).ok, _, rfl, itf (by rw [opt_eqv]; rfl) ?_⟩
      refine ⟨_, rfl, _, rfl, slen rfl, ?_⟩
      (intro tq ntq; generalize hGtq : upd _ tq _ = HX; have eHX := exG hGtq ntq; have htq := atG hGtq; clear hGtq)
      have EX := ext EW eHX
      refine ⟨tq, _, rfl, .tup (SqT.of htq) (.cons (dqT.mono EX).de (.cons (de_seq (sq.mono EX)) .nil)), sxx.sh, Nat.le_trans sxx.len (by decide), Nat.le_trans sxx.dep (by decide), ?_⟩
      refine ⟨_, rfl, rfl, _, rfl, itf (by simp) ⟨⟨_, _, _, _, _, _, _, rfl⟩, xbx.trans (xbL.trans (XT.trans (XB.of EX))), (sT.mono EX).less (by omega)⟩⟩
    · rintro σ Hx ⟨⟨y10, y11, y12, y13, y14, y15, y16, rfl⟩, xbx, sx⟩
      have hdx := xbx _ _ nd hdK
      have hlx := xbx _ _ nls hlK
      have hax := xbx _ _ na2s haK
      have cbc : ∀ x ∈ cs, 0 ≤ x ∧ x ≤ 2 ^ c := fun x hx => by
        have h1 := le_sum sum.pos x hx
        rw [sum.sum] at h1
        exact ⟨sum.pos x hx, h1⟩
      refine ⟨_, rfl, _, rfl, _, rfl, _, rfl, _, rfl, rfl, ?_⟩
      show sp_check_sum [_, _, _, _, _] _ _ _
      refine ⟨ring, p, c, l, a2, ts, cs, rfl, n1, p0, p1, n40, by omega, hlx, hax, sum.len, ne, lt, inr, nod, cbc, sum.sum, sum.dvd, fun HL eL => ?_⟩
      exact ⟨rfl, _, rfl, itf rfl ⟨⟨_, _, _, _, _, _, _, _, _, _, _, _, _, _, _, _, rfl⟩, eL _ _ hdx⟩⟩
end

theorem all_mk {K : PySem.W.Frag} {h : Heap} {mg : Str → Option Value} (X : K.In h) (G : h.Ns mainGlobals mg)
    {f0 f1 f2 f3 f4 f5 f6 f7 f8 f9 f10 f11 f12 f13 f14 f15 f16 f17 f18 f19 f20 f21 f22 f23 C_InvalidWitness : Addr}
    {od0 an0 od1 an1 od2 an2 od3 an3 od4 an4 od5 an5 od6 an6 od7 an7 od8 an8 od9 an9 od10 an10 od11 an11 od12 an12 od13 an13 od14 an14 od15 an15 od16 an16 od17 an17 od18 an18 od19 an19 od20 an20 od21 an21 od22 an22 od23 an23 : Option Addr} {sl0 sl1 sl2 sl3 sl4 sl5 sl6 sl7 sl8 sl9 sl10 sl11 sl12 sl13 sl14 sl15 sl16 sl17 sl18 sl19 sl20 sl21 sl22 sl23 : Array (Option Value)} {oc0 kV0 dc0 pm0 cd0 ct0 oc1 kV1 dc1 pm1 cd1 ct1 oc2 kV2 dc2 pm2 cd2 ct2 oc3 kV3 dc3 pm3 cd3 ct3 oc4 kV4 dc4 pm4 cd4 ct4 oc5 kV5 dc5 pm5 cd5 ct5 oc6 kV6 dc6 pm6 cd6 ct6 oc7 kV7 dc7 pm7 cd7 ct7 oc8 kV8 dc8 pm8 cd8 ct8 oc9 kV9 dc9 pm9 cd9 ct9 oc10 kV10 dc10 pm10 cd10 ct10 oc11 kV11 dc11 pm11 cd11 ct11 oc12 kV12 dc12 pm12 cd12 ct12 oc13 kV13 dc13 pm13 cd13 ct13 oc14 kV14 dc14 pm14 cd14 ct14 oc15 kV15 dc15 pm15 cd15 ct15 oc16 kV16 dc16 pm16 cd16 ct16 oc17 kV17 dc17 pm17 cd17 ct17 oc18 kV18 dc18 pm18 cd18 ct18 oc19 kV19 dc19 pm19 cd19 ct19 oc20 kV20 dc20 pm20 cd20 ct20 oc21 kV21 dc21 pm21 cd21 ct21 oc22 kV22 dc22 pm22 cd22 ct22 oc23 kV23 dc23 pm23 cd23 ct23 : Value}
    {nm_InvalidWitness q_InvalidWitness : Str} {N_InvalidWitness B_InvalidWitness : Addr} {bs_InvalidWitness sub_InvalidWitness : List Value} {sn_InvalidWitness : List Str} {ab_InvalidWitness : Bool} {col_InvalidWitness : Option Bool} {dd_InvalidWitness : Option Addr} {m0_InvalidWitness m1_InvalidWitness m2_InvalidWitness m3_InvalidWitness m5_InvalidWitness : Option Value}
    {t_MAX_CHECKED_CALLS : Tok}
    (aC_InvalidWitness : PySem.W.nsIn K mainGlobals "InvalidWitness" = some (some (.ref C_InvalidWitness)))
    (a0 : PySem.W.findIn K (.ref C_InvalidWitness) "__init__" = some (some (.ref f0)))
    (i0 : PySem.W.isFn K (.ref f0) = true)
    (l0 : K.lookup f0 = some ⟨oc0, od0, .func (PySem.W.fnOf "__init__" "InvalidWitness.__init__" (defArgs s_InvalidWitness_init) (defBody s_InvalidWitness_init) (defScope s_InvalidWitness_init) .none kV0 dc0 pm0 an0 cd0 ct0), sl0⟩)
    (c0 : PySem.W.codeIn K cd0 "InvalidWitness.__init__" = true)
    (k0 : PySem.W.keepIn K (.ref f0) = true)
    (a1 : PySem.W.nsIn K mainGlobals "is_integer" = some (some (.ref f1)))
    (l1 : K.lookup f1 = some ⟨oc1, od1, .func (PySem.W.fnOf "is_integer" "is_integer" (defArgs s_is_integer) (defBody s_is_integer) (defScope s_is_integer) .none kV1 dc1 pm1 an1 cd1 ct1), sl1⟩)
    (c1 : PySem.W.codeIn K cd1 "is_integer" = true)
    (k1 : PySem.W.keepIn K (.ref f1) = true)
    (a2 : PySem.W.nsIn K mainGlobals "is_at_least" = some (some (.ref f2)))
    (l2 : K.lookup f2 = some ⟨oc2, od2, .func (PySem.W.fnOf "is_at_least" "is_at_least" (defArgs s_is_at_least) (defBody s_is_at_least) (defScope s_is_at_least) .none kV2 dc2 pm2 an2 cd2 ct2), sl2⟩)
    (c2 : PySem.W.codeIn K cd2 "is_at_least" = true)
    (k2 : PySem.W.keepIn K (.ref f2) = true)
    (a3 : PySem.W.nsIn K mainGlobals "is_between" = some (some (.ref f3)))
    (l3 : K.lookup f3 = some ⟨oc3, od3, .func (PySem.W.fnOf "is_between" "is_between" (defArgs s_is_between) (defBody s_is_between) (defScope s_is_between) .none kV3 dc3 pm3 an3 cd3 ct3), sl3⟩)
    (c3 : PySem.W.codeIn K cd3 "is_between" = true)
    (k3 : PySem.W.keepIn K (.ref f3) = true)
    (a4 : PySem.W.nsIn K mainGlobals "require_at_least" = some (some (.ref f4)))
    (l4 : K.lookup f4 = some ⟨oc4, od4, .func (PySem.W.fnOf "require_at_least" "require_at_least" (defArgs s_require_at_least) (defBody s_require_at_least) (defScope s_require_at_least) .none kV4 dc4 pm4 an4 cd4 ct4), sl4⟩)
    (c4 : PySem.W.codeIn K cd4 "require_at_least" = true)
    (k4 : PySem.W.keepIn K (.ref f4) = true)
    (a5 : PySem.W.nsIn K mainGlobals "require_places" = some (some (.ref f5)))
    (l5 : K.lookup f5 = some ⟨oc5, od5, .func (PySem.W.fnOf "require_places" "require_places" (defArgs s_require_places) (defBody s_require_places) (defScope s_require_places) .none kV5 dc5 pm5 an5 cd5 ct5), sl5⟩)
    (c5 : PySem.W.codeIn K cd5 "require_places" = true)
    (k5 : PySem.W.keepIn K (.ref f5) = true)
    (a6 : PySem.W.nsIn K mainGlobals "require_place" = some (some (.ref f6)))
    (l6 : K.lookup f6 = some ⟨oc6, od6, .func (PySem.W.fnOf "require_place" "require_place" (defArgs s_require_place) (defBody s_require_place) (defScope s_require_place) .none kV6 dc6 pm6 an6 cd6 ct6), sl6⟩)
    (c6 : PySem.W.codeIn K cd6 "require_place" = true)
    (k6 : PySem.W.keepIn K (.ref f6) = true)
    (a7 : PySem.W.nsIn K mainGlobals "require_limit" = some (some (.ref f7)))
    (l7 : K.lookup f7 = some ⟨oc7, od7, .func (PySem.W.fnOf "require_limit" "require_limit" (defArgs s_require_limit) (defBody s_require_limit) (defScope s_require_limit) .none kV7 dc7 pm7 an7 cd7 ct7), sl7⟩)
    (c7 : PySem.W.codeIn K cd7 "require_limit" = true)
    (k7 : PySem.W.keepIn K (.ref f7) = true)
    (a8 : PySem.W.nsIn K mainGlobals "require_counts" = some (some (.ref f8)))
    (l8 : K.lookup f8 = some ⟨oc8, od8, .func (PySem.W.fnOf "require_counts" "require_counts" (defArgs s_require_counts) (defBody s_require_counts) (defScope s_require_counts) .none kV8 dc8 pm8 an8 cd8 ct8), sl8⟩)
    (c8 : PySem.W.codeIn K cd8 "require_counts" = true)
    (k8 : PySem.W.keepIn K (.ref f8) = true)
    (a9 : PySem.W.nsIn K mainGlobals "require_sum" = some (some (.ref f9)))
    (l9 : K.lookup f9 = some ⟨oc9, od9, .func (PySem.W.fnOf "require_sum" "require_sum" (defArgs s_require_sum) (defBody s_require_sum) (defScope s_require_sum) .none kV9 dc9 pm9 an9 cd9 ct9), sl9⟩)
    (c9 : PySem.W.codeIn K cd9 "require_sum" = true)
    (k9 : PySem.W.keepIn K (.ref f9) = true)
    (a10 : PySem.W.nsIn K mainGlobals "check_sum" = some (some (.ref f10)))
    (l10 : K.lookup f10 = some ⟨oc10, od10, .func (PySem.W.fnOf "check_sum" "check_sum" (defArgs s_check_sum) (defBody s_check_sum) (defScope s_check_sum) .none kV10 dc10 pm10 an10 cd10 ct10), sl10⟩)
    (c10 : PySem.W.codeIn K cd10 "check_sum" = true)
    (k10 : PySem.W.keepIn K (.ref f10) = true)
    (a11 : PySem.W.nsIn K mainGlobals "_law_cell_at" = some (some (.ref f11)))
    (l11 : K.lookup f11 = some ⟨oc11, od11, .func (PySem.W.fnOf "_law_cell_at" "_law_cell_at" (defArgs s_law_cell_at) (defBody s_law_cell_at) (defScope s_law_cell_at) .none kV11 dc11 pm11 an11 cd11 ct11), sl11⟩)
    (c11 : PySem.W.codeIn K cd11 "_law_cell_at" = true)
    (k11 : PySem.W.keepIn K (.ref f11) = true)
    (a12 : PySem.W.nsIn K mainGlobals "_law_source" = some (some (.ref f12)))
    (l12 : K.lookup f12 = some ⟨oc12, od12, .func (PySem.W.fnOf "_law_source" "_law_source" (defArgs s_law_source) (defBody s_law_source) (defScope s_law_source) .none kV12 dc12 pm12 an12 cd12 ct12), sl12⟩)
    (c12 : PySem.W.codeIn K cd12 "_law_source" = true)
    (k12 : PySem.W.keepIn K (.ref f12) = true)
    (a13 : PySem.W.nsIn K mainGlobals "_law_take" = some (some (.ref f13)))
    (l13 : K.lookup f13 = some ⟨oc13, od13, .func (PySem.W.fnOf "_law_take" "_law_take" (defArgs s_law_take) (defBody s_law_take) (defScope s_law_take) .none kV13 dc13 pm13 an13 cd13 ct13), sl13⟩)
    (c13 : PySem.W.codeIn K cd13 "_law_take" = true)
    (k13 : PySem.W.keepIn K (.ref f13) = true)
    (a14 : PySem.W.nsIn K mainGlobals "_law_large" = some (some (.ref f14)))
    (l14 : K.lookup f14 = some ⟨oc14, od14, .func (PySem.W.fnOf "_law_large" "_law_large" (defArgs s_law_large) (defBody s_law_large) (defScope s_law_large) .none kV14 dc14 pm14 an14 cd14 ct14), sl14⟩)
    (c14 : PySem.W.codeIn K cd14 "_law_large" = true)
    (k14 : PySem.W.keepIn K (.ref f14) = true)
    (a15 : PySem.W.nsIn K mainGlobals "_law_shuffled" = some (some (.ref f15)))
    (l15 : K.lookup f15 = some ⟨oc15, od15, .func (PySem.W.fnOf "_law_shuffled" "_law_shuffled" (defArgs s_law_shuffled) (defBody s_law_shuffled) (defScope s_law_shuffled) .none kV15 dc15 pm15 an15 cd15 ct15), sl15⟩)
    (c15 : PySem.W.codeIn K cd15 "_law_shuffled" = true)
    (k15 : PySem.W.keepIn K (.ref f15) = true)
    (a16 : PySem.W.nsIn K mainGlobals "_law_gcd" = some (some (.ref f16)))
    (l16 : K.lookup f16 = some ⟨oc16, od16, .func (PySem.W.fnOf "_law_gcd" "_law_gcd" (defArgs s_law_gcd) (defBody s_law_gcd) (defScope s_law_gcd) .none kV16 dc16 pm16 an16 cd16 ct16), sl16⟩)
    (c16 : PySem.W.codeIn K cd16 "_law_gcd" = true)
    (k16 : PySem.W.keepIn K (.ref f16) = true)
    (a17 : PySem.W.nsIn K mainGlobals "_law_inverse" = some (some (.ref f17)))
    (l17 : K.lookup f17 = some ⟨oc17, od17, .func (PySem.W.fnOf "_law_inverse" "_law_inverse" (defArgs s_law_inverse) (defBody s_law_inverse) (defScope s_law_inverse) .none kV17 dc17 pm17 an17 cd17 ct17), sl17⟩)
    (c17 : PySem.W.codeIn K cd17 "_law_inverse" = true)
    (k17 : PySem.W.keepIn K (.ref f17) = true)
    (a18 : PySem.W.nsIn K mainGlobals "_law_targets" = some (some (.ref f18)))
    (l18 : K.lookup f18 = some ⟨oc18, od18, .func (PySem.W.fnOf "_law_targets" "_law_targets" (defArgs s_law_targets) (defBody s_law_targets) (defScope s_law_targets) .none kV18 dc18 pm18 an18 cd18 ct18), sl18⟩)
    (c18 : PySem.W.codeIn K cd18 "_law_targets" = true)
    (k18 : PySem.W.keepIn K (.ref f18) = true)
    (a19 : PySem.W.nsIn K mainGlobals "_law_made" = some (some (.ref f19)))
    (l19 : K.lookup f19 = some ⟨oc19, od19, .func (PySem.W.fnOf "_law_made" "_law_made" (defArgs s_law_made) (defBody s_law_made) (defScope s_law_made) .none kV19 dc19 pm19 an19 cd19 ct19), sl19⟩)
    (c19 : PySem.W.codeIn K cd19 "_law_made" = true)
    (k19 : PySem.W.keepIn K (.ref f19) = true)
    (a20 : PySem.W.nsIn K mainGlobals "_law_bad" = some (some (.ref f20)))
    (l20 : K.lookup f20 = some ⟨oc20, od20, .func (PySem.W.fnOf "_law_bad" "_law_bad" (defArgs s_law_bad) (defBody s_law_bad) (defScope s_law_bad) .none kV20 dc20 pm20 an20 cd20 ct20), sl20⟩)
    (c20 : PySem.W.codeIn K cd20 "_law_bad" = true)
    (k20 : PySem.W.keepIn K (.ref f20) = true)
    (a21 : PySem.W.nsIn K mainGlobals "_law_changed" = some (some (.ref f21)))
    (l21 : K.lookup f21 = some ⟨oc21, od21, .func (PySem.W.fnOf "_law_changed" "_law_changed" (defArgs s_law_changed) (defBody s_law_changed) (defScope s_law_changed) .none kV21 dc21 pm21 an21 cd21 ct21), sl21⟩)
    (c21 : PySem.W.codeIn K cd21 "_law_changed" = true)
    (k21 : PySem.W.keepIn K (.ref f21) = true)
    (a22 : PySem.W.nsIn K mainGlobals "_law_said" = some (some (.ref f22)))
    (l22 : K.lookup f22 = some ⟨oc22, od22, .func (PySem.W.fnOf "_law_said" "_law_said" (defArgs s_law_said) (defBody s_law_said) (defScope s_law_said) .none kV22 dc22 pm22 an22 cd22 ct22), sl22⟩)
    (c22 : PySem.W.codeIn K cd22 "_law_said" = true)
    (k22 : PySem.W.keepIn K (.ref f22) = true)
    (a23 : PySem.W.nsIn K mainGlobals "law" = some (some (.ref f23)))
    (l23 : K.lookup f23 = some ⟨oc23, od23, .func (PySem.W.fnOf "law" "law" (defArgs s_law) (defBody s_law) (defScope s_law) .none kV23 dc23 pm23 an23 cd23 ct23), sl23⟩)
    (c23 : PySem.W.codeIn K cd23 "law" = true)
    (k23 : PySem.W.keepIn K (.ref f23) = true)
    (xl_InvalidWitness : K.lookup C_InvalidWitness = some (excClassObj nm_InvalidWitness q_InvalidWitness C_InvalidWitness N_InvalidWitness bs_InvalidWitness [.ref B_InvalidWitness, .type "ValueError", .type "Exception", .type "BaseException", .type "object"] true sn_InvalidWitness sub_InvalidWitness ab_InvalidWitness col_InvalidWitness dd_InvalidWitness m0_InvalidWitness m1_InvalidWitness m2_InvalidWitness m3_InvalidWitness m5_InvalidWitness "ValueError.__new__"))
    (sa_InvalidWitness : PySem.W.findIn K (.ref C_InvalidWitness) "__setattr__" = some (some (.builtin "object.__setattr__")))
    (ga_InvalidWitness : PySem.W.findIn K (.ref C_InvalidWitness) "__getattribute__" = some (some (.builtin "BaseException.__getattribute__")))
    (gg_InvalidWitness : PySem.W.findIn K (.ref C_InvalidWitness) "__getattr__" = some none)
    (ti_InvalidWitness : PySem.W.typeIn K (.ref f0) = some (.type "function"))
    (kc_InvalidWitness : PySem.W.keepIn K (.ref C_InvalidWitness) = true)
    (ex_InvalidWitness : PySem.W.subIn K (.ref C_InvalidWitness) (.type "BaseException") = some true)
    (ty_InvalidWitness : PySem.W.typeIn K (.ref C_InvalidWitness) = some (.type "type"))
    (hd_InvalidWitness : PySem.W.hasDictIn K C_InvalidWitness = true)
    (il_InvalidWitness : PySem.W.isClsIn K C_InvalidWitness = true)
    (ss_InvalidWitness : PySem.W.subIn K (.ref C_InvalidWitness) (.ref C_InvalidWitness) = some true)
    (n_InvalidWitness_index : PySem.W.findIn K (.ref C_InvalidWitness) "index" = some none)
    (sysd : PySem.W.typeIn K (.ref sysModules) = some (.type "dict"))
    (v_MAX_CHECKED_CALLS : PySem.W.nsIn K mainGlobals "MAX_CHECKED_CALLS" = some (some (.int 1000 t_MAX_CHECKED_CALLS)))
    (z_abs : PySem.W.nsIn K mainGlobals "abs" = some none)
    (z_bool : PySem.W.nsIn K mainGlobals "bool" = some none)
    (z_enumerate : PySem.W.nsIn K mainGlobals "enumerate" = some none)
    (z_int : PySem.W.nsIn K mainGlobals "int" = some none)
    (z_isinstance : PySem.W.nsIn K mainGlobals "isinstance" = some none)
    (z_len : PySem.W.nsIn K mainGlobals "len" = some none)
    (z_list : PySem.W.nsIn K mainGlobals "list" = some none)
    (z_max : PySem.W.nsIn K mainGlobals "max" = some none)
    (z_min : PySem.W.nsIn K mainGlobals "min" = some none)
    (z_range : PySem.W.nsIn K mainGlobals "range" = some none)
    (z_repr : PySem.W.nsIn K mainGlobals "repr" = some none)
    (z_sum : PySem.W.nsIn K mainGlobals "sum" = some none)
    (z_tuple : PySem.W.nsIn K mainGlobals "tuple" = some none)
    (z_zip : PySem.W.nsIn K mainGlobals "zip" = some none)
    : ∃ T : TX K mg, T.f_law = f23 ∧ T.fd_law = PySem.W.fnOf "law" "law" (defArgs s_law) (defBody s_law) (defScope s_law) .none kV23 dc23 pm23 an23 cd23 ct23 := by
  have F0 := fun_mk (st := s_InvalidWitness_init) l0 c0 k0
  have b0 := F0.binds (ps := ["self", "index"]) fun _ _ _ _ _ _ us hl => match us, hl with | [_, _], _ => rfl
  have F1 := fun_mk (st := s_is_integer) l1 c1 k1
  have b1 := F1.binds (ps := ["value"]) fun _ _ _ _ _ _ us hl => match us, hl with | [_], _ => rfl
  have F2 := fun_mk (st := s_is_at_least) l2 c2 k2
  have b2 := F2.binds (ps := ["value", "low"]) fun _ _ _ _ _ _ us hl => match us, hl with | [_, _], _ => rfl
  have F3 := fun_mk (st := s_is_between) l3 c3 k3
  have b3 := F3.binds (ps := ["value", "low", "high"]) fun _ _ _ _ _ _ us hl => match us, hl with | [_, _, _], _ => rfl
  have F4 := fun_mk (st := s_require_at_least) l4 c4 k4
  have b4 := F4.binds (ps := ["value", "low", "name"]) fun _ _ _ _ _ _ us hl => match us, hl with | [_, _, _], _ => rfl
  have F5 := fun_mk (st := s_require_places) l5 c5 k5
  have b5 := F5.binds (ps := ["size", "targets"]) fun _ _ _ _ _ _ us hl => match us, hl with | [_, _], _ => rfl
  have F6 := fun_mk (st := s_require_place) l6 c6 k6
  have b6 := F6.binds (ps := ["size", "place", "name"]) fun _ _ _ _ _ _ us hl => match us, hl with | [_, _, _], _ => rfl
  have F7 := fun_mk (st := s_require_limit) l7 c7 k7
  have b7 := F7.binds (ps := ["number", "limit"]) fun _ _ _ _ _ _ us hl => match us, hl with | [_, _], _ => rfl
  have F8 := fun_mk (st := s_require_counts) l8 c8 k8
  have b8 := F8.binds (ps := ["targets", "counts"]) fun _ _ _ _ _ _ us hl => match us, hl with | [_, _], _ => rfl
  have F9 := fun_mk (st := s_require_sum) l9 c9 k9
  have b9 := F9.binds (ps := ["size", "targets", "place", "counts", "total"]) fun _ _ _ _ _ _ us hl => match us, hl with | [_, _, _, _, _], _ => rfl
  have F10 := fun_mk (st := s_check_sum) l10 c10 k10
  have b10 := F10.binds (ps := ["size", "targets", "place", "calls", "counts"]) fun _ _ _ _ _ _ us hl => match us, hl with | [_, _, _, _, _], _ => rfl
  have F11 := fun_mk (st := s_law_cell_at) l11 c11 k11
  have b11 := F11.binds (ps := ["_law_script", "_law_k"]) fun _ _ _ _ _ _ us hl => match us, hl with | [_, _], _ => rfl
  have F12 := fun_mk (st := s_law_source) l12 c12 k12
  have b12 := F12.binds (ps := ["_law_cell"]) fun _ _ _ _ _ _ us hl => match us, hl with | [_], _ => rfl
  have F13 := fun_mk (st := s_law_take) l13 c13 k13
  have b13 := F13.binds (ps := ["_law_source_here", "_law_bound"]) fun _ _ _ _ _ _ us hl => match us, hl with | [_, _], _ => rfl
  have F14 := fun_mk (st := s_law_large) l14 c14 k14
  have b14 := F14.binds (ps := ["_law_source_here", "_law_bound"]) fun _ _ _ _ _ _ us hl => match us, hl with | [_, _], _ => rfl
  have F15 := fun_mk (st := s_law_shuffled) l15 c15 k15
  have b15 := F15.binds (ps := ["_law_source_here", "_law_items"]) fun _ _ _ _ _ _ us hl => match us, hl with | [_, _], _ => rfl
  have F16 := fun_mk (st := s_law_gcd) l16 c16 k16
  have b16 := F16.binds (ps := ["_law_a", "_law_b"]) fun _ _ _ _ _ _ us hl => match us, hl with | [_, _], _ => rfl
  have F17 := fun_mk (st := s_law_inverse) l17 c17 k17
  have b17 := F17.binds (ps := ["_law_number", "_law_modulus"]) fun _ _ _ _ _ _ us hl => match us, hl with | [_, _], _ => rfl
  have F18 := fun_mk (st := s_law_targets) l18 c18 k18
  have b18 := F18.binds (ps := ["_law_source_here", "_law_ring", "_law_bound"]) fun _ _ _ _ _ _ us hl => match us, hl with | [_, _, _], _ => rfl
  have F19 := fun_mk (st := s_law_made) l19 c19 k19
  have b19 := F19.binds (ps := ["_law_source_here", "_law_ring", "_law_goals", "_law_depth"]) fun _ _ _ _ _ _ us hl => match us, hl with | [_, _, _, _], _ => rfl
  have F20 := fun_mk (st := s_law_bad) l20 c20 k20
  have b20 := F20.binds (ps := ["_law_ring", "_law_goals", "_law_spot", "_law_depth", "_law_amounts"]) fun _ _ _ _ _ _ us hl => match us, hl with | [_, _, _, _, _], _ => rfl
  have F21 := fun_mk (st := s_law_changed) l21 c21 k21
  have b21 := F21.binds (ps := ["_law_source_here", "_law_amounts"]) fun _ _ _ _ _ _ us hl => match us, hl with | [_, _], _ => rfl
  have F22 := fun_mk (st := s_law_said) l22 c22 k22
  have b22 := F22.binds (ps := ["_law_ring", "_law_goals", "_law_spot", "_law_depth", "_law_amounts"]) fun _ _ _ _ _ _ us hl => match us, hl with | [_, _, _, _, _], _ => rfl
  have F23 := fun_mk (st := s_law) l23 c23 k23
  have b23 := F23.binds (ps := ["_law_script"]) fun _ _ _ _ _ _ us hl => match us, hl with | [_], _ => rfl
  exact ⟨{
    f_InvalidWitness_init := f0, fd_InvalidWitness_init := _, F_InvalidWitness_init := F0, b_InvalidWitness_init := b0,
    f_is_integer := f1, fd_is_integer := _, F_is_integer := F1, b_is_integer := b1, m_is_integer := PySem.W.mg_of X G a1,
    f_is_at_least := f2, fd_is_at_least := _, F_is_at_least := F2, b_is_at_least := b2, m_is_at_least := PySem.W.mg_of X G a2,
    f_is_between := f3, fd_is_between := _, F_is_between := F3, b_is_between := b3, m_is_between := PySem.W.mg_of X G a3,
    f_require_at_least := f4, fd_require_at_least := _, F_require_at_least := F4, b_require_at_least := b4, m_require_at_least := PySem.W.mg_of X G a4,
    f_require_places := f5, fd_require_places := _, F_require_places := F5, b_require_places := b5, m_require_places := PySem.W.mg_of X G a5,
    f_require_place := f6, fd_require_place := _, F_require_place := F6, b_require_place := b6, m_require_place := PySem.W.mg_of X G a6,
    f_require_limit := f7, fd_require_limit := _, F_require_limit := F7, b_require_limit := b7, m_require_limit := PySem.W.mg_of X G a7,
    f_require_counts := f8, fd_require_counts := _, F_require_counts := F8, b_require_counts := b8, m_require_counts := PySem.W.mg_of X G a8,
    f_require_sum := f9, fd_require_sum := _, F_require_sum := F9, b_require_sum := b9, m_require_sum := PySem.W.mg_of X G a9,
    f_check_sum := f10, fd_check_sum := _, F_check_sum := F10, b_check_sum := b10, m_check_sum := PySem.W.mg_of X G a10,
    f_law_cell_at := f11, fd_law_cell_at := _, F_law_cell_at := F11, b_law_cell_at := b11, m_law_cell_at := PySem.W.mg_of X G a11,
    f_law_source := f12, fd_law_source := _, F_law_source := F12, b_law_source := b12, m_law_source := PySem.W.mg_of X G a12,
    f_law_take := f13, fd_law_take := _, F_law_take := F13, b_law_take := b13, m_law_take := PySem.W.mg_of X G a13,
    f_law_large := f14, fd_law_large := _, F_law_large := F14, b_law_large := b14, m_law_large := PySem.W.mg_of X G a14,
    f_law_shuffled := f15, fd_law_shuffled := _, F_law_shuffled := F15, b_law_shuffled := b15, m_law_shuffled := PySem.W.mg_of X G a15,
    f_law_gcd := f16, fd_law_gcd := _, F_law_gcd := F16, b_law_gcd := b16, m_law_gcd := PySem.W.mg_of X G a16,
    f_law_inverse := f17, fd_law_inverse := _, F_law_inverse := F17, b_law_inverse := b17, m_law_inverse := PySem.W.mg_of X G a17,
    f_law_targets := f18, fd_law_targets := _, F_law_targets := F18, b_law_targets := b18, m_law_targets := PySem.W.mg_of X G a18,
    f_law_made := f19, fd_law_made := _, F_law_made := F19, b_law_made := b19, m_law_made := PySem.W.mg_of X G a19,
    f_law_bad := f20, fd_law_bad := _, F_law_bad := F20, b_law_bad := b20, m_law_bad := PySem.W.mg_of X G a20,
    f_law_changed := f21, fd_law_changed := _, F_law_changed := F21, b_law_changed := b21, m_law_changed := PySem.W.mg_of X G a21,
    f_law_said := f22, fd_law_said := _, F_law_said := F22, b_law_said := b22, m_law_said := PySem.W.mg_of X G a22,
    f_law := f23, fd_law := _, F_law := F23, b_law := b23, m_law := PySem.W.mg_of X G a23,
    C_InvalidWitness := C_InvalidWitness, m_InvalidWitness := PySem.W.mg_of X G aC_InvalidWitness, ox_InvalidWitness := ⟨⟨nm_InvalidWitness, q_InvalidWitness, N_InvalidWitness, bs_InvalidWitness, _, sn_InvalidWitness, sub_InvalidWitness, ab_InvalidWitness, col_InvalidWitness, dd_InvalidWitness, m0_InvalidWitness, m1_InvalidWitness, m2_InvalidWitness, m3_InvalidWitness, m5_InvalidWitness, xl_InvalidWitness, by rfl⟩, sa_InvalidWitness, ex_InvalidWitness, ty_InvalidWitness, kc_InvalidWitness⟩, xf_InvalidWitness := ⟨ga_InvalidWitness, gg_InvalidWitness, ex_InvalidWitness, hd_InvalidWitness⟩, i_InvalidWitness := a0, ti_InvalidWitness := ti_InvalidWitness, em_InvalidWitness := exm_self ex_InvalidWitness il_InvalidWitness ty_InvalidWitness ss_InvalidWitness,
    n_InvalidWitness_index := n_InvalidWitness_index,
    sysd := sysd,
    t_MAX_CHECKED_CALLS := _, c_MAX_CHECKED_CALLS := PySem.W.mg_of X G v_MAX_CHECKED_CALLS,
    z_abs := PySem.W.mg_none_of X G z_abs,
    z_bool := PySem.W.mg_none_of X G z_bool,
    z_enumerate := PySem.W.mg_none_of X G z_enumerate,
    z_int := PySem.W.mg_none_of X G z_int,
    z_isinstance := PySem.W.mg_none_of X G z_isinstance,
    z_len := PySem.W.mg_none_of X G z_len,
    z_list := PySem.W.mg_none_of X G z_list,
    z_max := PySem.W.mg_none_of X G z_max,
    z_min := PySem.W.mg_none_of X G z_min,
    z_range := PySem.W.mg_none_of X G z_range,
    z_repr := PySem.W.mg_none_of X G z_repr,
    z_sum := PySem.W.mg_none_of X G z_sum,
    z_tuple := PySem.W.mg_none_of X G z_tuple,
    z_zip := PySem.W.mg_none_of X G z_zip
  }, rfl, rfl⟩
theorem use_mk {K : PySem.W.Frag} {h : Heap} {mg : Str → Option Value} (X : K.In h) (G : h.Ns mainGlobals mg)
    {f0 f1 f2 f3 f4 f5 f6 f7 f8 f9 f10 f11 f12 f13 f14 f15 f16 f17 f18 f19 f20 f21 f22 f23 C_InvalidWitness : Addr}
    {od0 an0 od1 an1 od2 an2 od3 an3 od4 an4 od5 an5 od6 an6 od7 an7 od8 an8 od9 an9 od10 an10 od11 an11 od12 an12 od13 an13 od14 an14 od15 an15 od16 an16 od17 an17 od18 an18 od19 an19 od20 an20 od21 an21 od22 an22 od23 an23 : Option Addr} {sl0 sl1 sl2 sl3 sl4 sl5 sl6 sl7 sl8 sl9 sl10 sl11 sl12 sl13 sl14 sl15 sl16 sl17 sl18 sl19 sl20 sl21 sl22 sl23 : Array (Option Value)} {oc0 kV0 dc0 pm0 cd0 ct0 oc1 kV1 dc1 pm1 cd1 ct1 oc2 kV2 dc2 pm2 cd2 ct2 oc3 kV3 dc3 pm3 cd3 ct3 oc4 kV4 dc4 pm4 cd4 ct4 oc5 kV5 dc5 pm5 cd5 ct5 oc6 kV6 dc6 pm6 cd6 ct6 oc7 kV7 dc7 pm7 cd7 ct7 oc8 kV8 dc8 pm8 cd8 ct8 oc9 kV9 dc9 pm9 cd9 ct9 oc10 kV10 dc10 pm10 cd10 ct10 oc11 kV11 dc11 pm11 cd11 ct11 oc12 kV12 dc12 pm12 cd12 ct12 oc13 kV13 dc13 pm13 cd13 ct13 oc14 kV14 dc14 pm14 cd14 ct14 oc15 kV15 dc15 pm15 cd15 ct15 oc16 kV16 dc16 pm16 cd16 ct16 oc17 kV17 dc17 pm17 cd17 ct17 oc18 kV18 dc18 pm18 cd18 ct18 oc19 kV19 dc19 pm19 cd19 ct19 oc20 kV20 dc20 pm20 cd20 ct20 oc21 kV21 dc21 pm21 cd21 ct21 oc22 kV22 dc22 pm22 cd22 ct22 oc23 kV23 dc23 pm23 cd23 ct23 : Value}
    {nm_InvalidWitness q_InvalidWitness : Str} {N_InvalidWitness B_InvalidWitness : Addr} {bs_InvalidWitness sub_InvalidWitness : List Value} {sn_InvalidWitness : List Str} {ab_InvalidWitness : Bool} {col_InvalidWitness : Option Bool} {dd_InvalidWitness : Option Addr} {m0_InvalidWitness m1_InvalidWitness m2_InvalidWitness m3_InvalidWitness m5_InvalidWitness : Option Value}
    {t_MAX_CHECKED_CALLS : Tok}
    (aC_InvalidWitness : PySem.W.nsIn K mainGlobals "InvalidWitness" = some (some (.ref C_InvalidWitness)))
    (a0 : PySem.W.findIn K (.ref C_InvalidWitness) "__init__" = some (some (.ref f0)))
    (i0 : PySem.W.isFn K (.ref f0) = true)
    (l0 : K.lookup f0 = some ⟨oc0, od0, .func (PySem.W.fnOf "__init__" "InvalidWitness.__init__" (defArgs s_InvalidWitness_init) (defBody s_InvalidWitness_init) (defScope s_InvalidWitness_init) .none kV0 dc0 pm0 an0 cd0 ct0), sl0⟩)
    (c0 : PySem.W.codeIn K cd0 "InvalidWitness.__init__" = true)
    (k0 : PySem.W.keepIn K (.ref f0) = true)
    (a1 : PySem.W.nsIn K mainGlobals "is_integer" = some (some (.ref f1)))
    (l1 : K.lookup f1 = some ⟨oc1, od1, .func (PySem.W.fnOf "is_integer" "is_integer" (defArgs s_is_integer) (defBody s_is_integer) (defScope s_is_integer) .none kV1 dc1 pm1 an1 cd1 ct1), sl1⟩)
    (c1 : PySem.W.codeIn K cd1 "is_integer" = true)
    (k1 : PySem.W.keepIn K (.ref f1) = true)
    (a2 : PySem.W.nsIn K mainGlobals "is_at_least" = some (some (.ref f2)))
    (l2 : K.lookup f2 = some ⟨oc2, od2, .func (PySem.W.fnOf "is_at_least" "is_at_least" (defArgs s_is_at_least) (defBody s_is_at_least) (defScope s_is_at_least) .none kV2 dc2 pm2 an2 cd2 ct2), sl2⟩)
    (c2 : PySem.W.codeIn K cd2 "is_at_least" = true)
    (k2 : PySem.W.keepIn K (.ref f2) = true)
    (a3 : PySem.W.nsIn K mainGlobals "is_between" = some (some (.ref f3)))
    (l3 : K.lookup f3 = some ⟨oc3, od3, .func (PySem.W.fnOf "is_between" "is_between" (defArgs s_is_between) (defBody s_is_between) (defScope s_is_between) .none kV3 dc3 pm3 an3 cd3 ct3), sl3⟩)
    (c3 : PySem.W.codeIn K cd3 "is_between" = true)
    (k3 : PySem.W.keepIn K (.ref f3) = true)
    (a4 : PySem.W.nsIn K mainGlobals "require_at_least" = some (some (.ref f4)))
    (l4 : K.lookup f4 = some ⟨oc4, od4, .func (PySem.W.fnOf "require_at_least" "require_at_least" (defArgs s_require_at_least) (defBody s_require_at_least) (defScope s_require_at_least) .none kV4 dc4 pm4 an4 cd4 ct4), sl4⟩)
    (c4 : PySem.W.codeIn K cd4 "require_at_least" = true)
    (k4 : PySem.W.keepIn K (.ref f4) = true)
    (a5 : PySem.W.nsIn K mainGlobals "require_places" = some (some (.ref f5)))
    (l5 : K.lookup f5 = some ⟨oc5, od5, .func (PySem.W.fnOf "require_places" "require_places" (defArgs s_require_places) (defBody s_require_places) (defScope s_require_places) .none kV5 dc5 pm5 an5 cd5 ct5), sl5⟩)
    (c5 : PySem.W.codeIn K cd5 "require_places" = true)
    (k5 : PySem.W.keepIn K (.ref f5) = true)
    (a6 : PySem.W.nsIn K mainGlobals "require_place" = some (some (.ref f6)))
    (l6 : K.lookup f6 = some ⟨oc6, od6, .func (PySem.W.fnOf "require_place" "require_place" (defArgs s_require_place) (defBody s_require_place) (defScope s_require_place) .none kV6 dc6 pm6 an6 cd6 ct6), sl6⟩)
    (c6 : PySem.W.codeIn K cd6 "require_place" = true)
    (k6 : PySem.W.keepIn K (.ref f6) = true)
    (a7 : PySem.W.nsIn K mainGlobals "require_limit" = some (some (.ref f7)))
    (l7 : K.lookup f7 = some ⟨oc7, od7, .func (PySem.W.fnOf "require_limit" "require_limit" (defArgs s_require_limit) (defBody s_require_limit) (defScope s_require_limit) .none kV7 dc7 pm7 an7 cd7 ct7), sl7⟩)
    (c7 : PySem.W.codeIn K cd7 "require_limit" = true)
    (k7 : PySem.W.keepIn K (.ref f7) = true)
    (a8 : PySem.W.nsIn K mainGlobals "require_counts" = some (some (.ref f8)))
    (l8 : K.lookup f8 = some ⟨oc8, od8, .func (PySem.W.fnOf "require_counts" "require_counts" (defArgs s_require_counts) (defBody s_require_counts) (defScope s_require_counts) .none kV8 dc8 pm8 an8 cd8 ct8), sl8⟩)
    (c8 : PySem.W.codeIn K cd8 "require_counts" = true)
    (k8 : PySem.W.keepIn K (.ref f8) = true)
    (a9 : PySem.W.nsIn K mainGlobals "require_sum" = some (some (.ref f9)))
    (l9 : K.lookup f9 = some ⟨oc9, od9, .func (PySem.W.fnOf "require_sum" "require_sum" (defArgs s_require_sum) (defBody s_require_sum) (defScope s_require_sum) .none kV9 dc9 pm9 an9 cd9 ct9), sl9⟩)
    (c9 : PySem.W.codeIn K cd9 "require_sum" = true)
    (k9 : PySem.W.keepIn K (.ref f9) = true)
    (a10 : PySem.W.nsIn K mainGlobals "check_sum" = some (some (.ref f10)))
    (l10 : K.lookup f10 = some ⟨oc10, od10, .func (PySem.W.fnOf "check_sum" "check_sum" (defArgs s_check_sum) (defBody s_check_sum) (defScope s_check_sum) .none kV10 dc10 pm10 an10 cd10 ct10), sl10⟩)
    (c10 : PySem.W.codeIn K cd10 "check_sum" = true)
    (k10 : PySem.W.keepIn K (.ref f10) = true)
    (a11 : PySem.W.nsIn K mainGlobals "_law_cell_at" = some (some (.ref f11)))
    (l11 : K.lookup f11 = some ⟨oc11, od11, .func (PySem.W.fnOf "_law_cell_at" "_law_cell_at" (defArgs s_law_cell_at) (defBody s_law_cell_at) (defScope s_law_cell_at) .none kV11 dc11 pm11 an11 cd11 ct11), sl11⟩)
    (c11 : PySem.W.codeIn K cd11 "_law_cell_at" = true)
    (k11 : PySem.W.keepIn K (.ref f11) = true)
    (a12 : PySem.W.nsIn K mainGlobals "_law_source" = some (some (.ref f12)))
    (l12 : K.lookup f12 = some ⟨oc12, od12, .func (PySem.W.fnOf "_law_source" "_law_source" (defArgs s_law_source) (defBody s_law_source) (defScope s_law_source) .none kV12 dc12 pm12 an12 cd12 ct12), sl12⟩)
    (c12 : PySem.W.codeIn K cd12 "_law_source" = true)
    (k12 : PySem.W.keepIn K (.ref f12) = true)
    (a13 : PySem.W.nsIn K mainGlobals "_law_take" = some (some (.ref f13)))
    (l13 : K.lookup f13 = some ⟨oc13, od13, .func (PySem.W.fnOf "_law_take" "_law_take" (defArgs s_law_take) (defBody s_law_take) (defScope s_law_take) .none kV13 dc13 pm13 an13 cd13 ct13), sl13⟩)
    (c13 : PySem.W.codeIn K cd13 "_law_take" = true)
    (k13 : PySem.W.keepIn K (.ref f13) = true)
    (a14 : PySem.W.nsIn K mainGlobals "_law_large" = some (some (.ref f14)))
    (l14 : K.lookup f14 = some ⟨oc14, od14, .func (PySem.W.fnOf "_law_large" "_law_large" (defArgs s_law_large) (defBody s_law_large) (defScope s_law_large) .none kV14 dc14 pm14 an14 cd14 ct14), sl14⟩)
    (c14 : PySem.W.codeIn K cd14 "_law_large" = true)
    (k14 : PySem.W.keepIn K (.ref f14) = true)
    (a15 : PySem.W.nsIn K mainGlobals "_law_shuffled" = some (some (.ref f15)))
    (l15 : K.lookup f15 = some ⟨oc15, od15, .func (PySem.W.fnOf "_law_shuffled" "_law_shuffled" (defArgs s_law_shuffled) (defBody s_law_shuffled) (defScope s_law_shuffled) .none kV15 dc15 pm15 an15 cd15 ct15), sl15⟩)
    (c15 : PySem.W.codeIn K cd15 "_law_shuffled" = true)
    (k15 : PySem.W.keepIn K (.ref f15) = true)
    (a16 : PySem.W.nsIn K mainGlobals "_law_gcd" = some (some (.ref f16)))
    (l16 : K.lookup f16 = some ⟨oc16, od16, .func (PySem.W.fnOf "_law_gcd" "_law_gcd" (defArgs s_law_gcd) (defBody s_law_gcd) (defScope s_law_gcd) .none kV16 dc16 pm16 an16 cd16 ct16), sl16⟩)
    (c16 : PySem.W.codeIn K cd16 "_law_gcd" = true)
    (k16 : PySem.W.keepIn K (.ref f16) = true)
    (a17 : PySem.W.nsIn K mainGlobals "_law_inverse" = some (some (.ref f17)))
    (l17 : K.lookup f17 = some ⟨oc17, od17, .func (PySem.W.fnOf "_law_inverse" "_law_inverse" (defArgs s_law_inverse) (defBody s_law_inverse) (defScope s_law_inverse) .none kV17 dc17 pm17 an17 cd17 ct17), sl17⟩)
    (c17 : PySem.W.codeIn K cd17 "_law_inverse" = true)
    (k17 : PySem.W.keepIn K (.ref f17) = true)
    (a18 : PySem.W.nsIn K mainGlobals "_law_targets" = some (some (.ref f18)))
    (l18 : K.lookup f18 = some ⟨oc18, od18, .func (PySem.W.fnOf "_law_targets" "_law_targets" (defArgs s_law_targets) (defBody s_law_targets) (defScope s_law_targets) .none kV18 dc18 pm18 an18 cd18 ct18), sl18⟩)
    (c18 : PySem.W.codeIn K cd18 "_law_targets" = true)
    (k18 : PySem.W.keepIn K (.ref f18) = true)
    (a19 : PySem.W.nsIn K mainGlobals "_law_made" = some (some (.ref f19)))
    (l19 : K.lookup f19 = some ⟨oc19, od19, .func (PySem.W.fnOf "_law_made" "_law_made" (defArgs s_law_made) (defBody s_law_made) (defScope s_law_made) .none kV19 dc19 pm19 an19 cd19 ct19), sl19⟩)
    (c19 : PySem.W.codeIn K cd19 "_law_made" = true)
    (k19 : PySem.W.keepIn K (.ref f19) = true)
    (a20 : PySem.W.nsIn K mainGlobals "_law_bad" = some (some (.ref f20)))
    (l20 : K.lookup f20 = some ⟨oc20, od20, .func (PySem.W.fnOf "_law_bad" "_law_bad" (defArgs s_law_bad) (defBody s_law_bad) (defScope s_law_bad) .none kV20 dc20 pm20 an20 cd20 ct20), sl20⟩)
    (c20 : PySem.W.codeIn K cd20 "_law_bad" = true)
    (k20 : PySem.W.keepIn K (.ref f20) = true)
    (a21 : PySem.W.nsIn K mainGlobals "_law_changed" = some (some (.ref f21)))
    (l21 : K.lookup f21 = some ⟨oc21, od21, .func (PySem.W.fnOf "_law_changed" "_law_changed" (defArgs s_law_changed) (defBody s_law_changed) (defScope s_law_changed) .none kV21 dc21 pm21 an21 cd21 ct21), sl21⟩)
    (c21 : PySem.W.codeIn K cd21 "_law_changed" = true)
    (k21 : PySem.W.keepIn K (.ref f21) = true)
    (a22 : PySem.W.nsIn K mainGlobals "_law_said" = some (some (.ref f22)))
    (l22 : K.lookup f22 = some ⟨oc22, od22, .func (PySem.W.fnOf "_law_said" "_law_said" (defArgs s_law_said) (defBody s_law_said) (defScope s_law_said) .none kV22 dc22 pm22 an22 cd22 ct22), sl22⟩)
    (c22 : PySem.W.codeIn K cd22 "_law_said" = true)
    (k22 : PySem.W.keepIn K (.ref f22) = true)
    (a23 : PySem.W.nsIn K mainGlobals "law" = some (some (.ref f23)))
    (l23 : K.lookup f23 = some ⟨oc23, od23, .func (PySem.W.fnOf "law" "law" (defArgs s_law) (defBody s_law) (defScope s_law) .none kV23 dc23 pm23 an23 cd23 ct23), sl23⟩)
    (c23 : PySem.W.codeIn K cd23 "law" = true)
    (k23 : PySem.W.keepIn K (.ref f23) = true)
    (xl_InvalidWitness : K.lookup C_InvalidWitness = some (excClassObj nm_InvalidWitness q_InvalidWitness C_InvalidWitness N_InvalidWitness bs_InvalidWitness [.ref B_InvalidWitness, .type "ValueError", .type "Exception", .type "BaseException", .type "object"] true sn_InvalidWitness sub_InvalidWitness ab_InvalidWitness col_InvalidWitness dd_InvalidWitness m0_InvalidWitness m1_InvalidWitness m2_InvalidWitness m3_InvalidWitness m5_InvalidWitness "ValueError.__new__"))
    (sa_InvalidWitness : PySem.W.findIn K (.ref C_InvalidWitness) "__setattr__" = some (some (.builtin "object.__setattr__")))
    (ga_InvalidWitness : PySem.W.findIn K (.ref C_InvalidWitness) "__getattribute__" = some (some (.builtin "BaseException.__getattribute__")))
    (gg_InvalidWitness : PySem.W.findIn K (.ref C_InvalidWitness) "__getattr__" = some none)
    (ti_InvalidWitness : PySem.W.typeIn K (.ref f0) = some (.type "function"))
    (kc_InvalidWitness : PySem.W.keepIn K (.ref C_InvalidWitness) = true)
    (ex_InvalidWitness : PySem.W.subIn K (.ref C_InvalidWitness) (.type "BaseException") = some true)
    (ty_InvalidWitness : PySem.W.typeIn K (.ref C_InvalidWitness) = some (.type "type"))
    (hd_InvalidWitness : PySem.W.hasDictIn K C_InvalidWitness = true)
    (il_InvalidWitness : PySem.W.isClsIn K C_InvalidWitness = true)
    (ss_InvalidWitness : PySem.W.subIn K (.ref C_InvalidWitness) (.ref C_InvalidWitness) = some true)
    (n_InvalidWitness_index : PySem.W.findIn K (.ref C_InvalidWitness) "index" = some none)
    (sysd : PySem.W.typeIn K (.ref sysModules) = some (.type "dict"))
    (v_MAX_CHECKED_CALLS : PySem.W.nsIn K mainGlobals "MAX_CHECKED_CALLS" = some (some (.int 1000 t_MAX_CHECKED_CALLS)))
    (z_abs : PySem.W.nsIn K mainGlobals "abs" = some none)
    (z_bool : PySem.W.nsIn K mainGlobals "bool" = some none)
    (z_enumerate : PySem.W.nsIn K mainGlobals "enumerate" = some none)
    (z_int : PySem.W.nsIn K mainGlobals "int" = some none)
    (z_isinstance : PySem.W.nsIn K mainGlobals "isinstance" = some none)
    (z_len : PySem.W.nsIn K mainGlobals "len" = some none)
    (z_list : PySem.W.nsIn K mainGlobals "list" = some none)
    (z_max : PySem.W.nsIn K mainGlobals "max" = some none)
    (z_min : PySem.W.nsIn K mainGlobals "min" = some none)
    (z_range : PySem.W.nsIn K mainGlobals "range" = some none)
    (z_repr : PySem.W.nsIn K mainGlobals "repr" = some none)
    (z_sum : PySem.W.nsIn K mainGlobals "sum" = some none)
    (z_tuple : PySem.W.nsIn K mainGlobals "tuple" = some none)
    (z_zip : PySem.W.nsIn K mainGlobals "zip" = some none)
    : ∃ T : TX K mg, mg "law" = some (.ref T.f_law) ∧ ∀ (s : Shared) (v : Value), BindsTo s T.fd_law ⟨[v], []⟩ [("_law_script", v)] := by
  obtain ⟨T, h1, h2⟩ := all_mk X G aC_InvalidWitness a0 i0 l0 c0 k0 a1 l1 c1 k1 a2 l2 c2 k2 a3 l3 c3 k3 a4 l4 c4 k4 a5 l5 c5 k5 a6 l6 c6 k6 a7 l7 c7 k7 a8 l8 c8 k8 a9 l9 c9 k9 a10 l10 c10 k10 a11 l11 c11 k11 a12 l12 c12 k12 a13 l13 c13 k13 a14 l14 c14 k14 a15 l15 c15 k15 a16 l16 c16 k16 a17 l17 c17 k17 a18 l18 c18 k18 a19 l19 c19 k19 a20 l20 c20 k20 a21 l21 c21 k21 a22 l22 c22 k22 a23 l23 c23 k23 xl_InvalidWitness sa_InvalidWitness ga_InvalidWitness gg_InvalidWitness ti_InvalidWitness kc_InvalidWitness ex_InvalidWitness ty_InvalidWitness hd_InvalidWitness il_InvalidWitness ss_InvalidWitness n_InvalidWitness_index sysd v_MAX_CHECKED_CALLS z_abs z_bool z_enumerate z_int z_isinstance z_len z_list z_max z_min z_range z_repr z_sum z_tuple z_zip
  exact ⟨T, T.m_law, fun s v => by rw [h2]; exact .of_eq rfl⟩
end CS
open PySem PySem.W PyProof.Rows in
set_option maxRecDepth 100000 in
set_option maxHeartbeats 0 in
theorem PySem.Challenge.cw_calledseats_k55_sums_checked_holds : PySem.Challenge.rw_calledseats_k55_sums_checked.Holds := by
  w_on; o_law; x_head; (case hw => w_witness2)
  k_fill
  refine CG.walk_ofG (l := PySem.Challenge.rw_calledseats_k55_sums_checked) (n := 63) (k := 7) (x := "_law_script") rfl (by decide) rfl ⟨rfl, by decide, by decide⟩ ?F
  case F =>
    intro w mg fa h Y G hmg
    have KX := PySem.W.kIn_of Y
    obtain ⟨T, e1, e2⟩ : ∃ T : CS.TX _ mg, mg "law" = some (.ref T.f_law) ∧ ∀ (s : Shared) (v : Value), BindsTo s T.fd_law ⟨[v], []⟩ [("_law_script", v)] := by
      refine' CS.use_mk KX G ?aC_InvalidWitness ?a0 ?i0 ?l0 ?c0 ?k0 ?a1 ?l1 ?c1 ?k1 ?a2 ?l2 ?c2 ?k2 ?a3 ?l3 ?c3 ?k3 ?a4 ?l4 ?c4 ?k4 ?a5 ?l5 ?c5 ?k5 ?a6 ?l6 ?c6 ?k6 ?a7 ?l7 ?c7 ?k7 ?a8 ?l8 ?c8 ?k8 ?a9 ?l9 ?c9 ?k9 ?a10 ?l10 ?c10 ?k10 ?a11 ?l11 ?c11 ?k11 ?a12 ?l12 ?c12 ?k12 ?a13 ?l13 ?c13 ?k13 ?a14 ?l14 ?c14 ?k14 ?a15 ?l15 ?c15 ?k15 ?a16 ?l16 ?c16 ?k16 ?a17 ?l17 ?c17 ?k17 ?a18 ?l18 ?c18 ?k18 ?a19 ?l19 ?c19 ?k19 ?a20 ?l20 ?c20 ?k20 ?a21 ?l21 ?c21 ?k21 ?a22 ?l22 ?c22 ?k22 ?a23 ?l23 ?c23 ?k23 ?xl_InvalidWitness ?sa_InvalidWitness ?ga_InvalidWitness ?gg_InvalidWitness ?ti_InvalidWitness ?kc_InvalidWitness ?ex_InvalidWitness ?ty_InvalidWitness ?hd_InvalidWitness ?il_InvalidWitness ?ss_InvalidWitness ?n_InvalidWitness_index ?sysd ?v_MAX_CHECKED_CALLS ?z_abs ?z_bool ?z_enumerate ?z_int ?z_isinstance ?z_len ?z_list ?z_max ?z_min ?z_range ?z_repr ?z_sum ?z_tuple ?z_zip
      (case aC_InvalidWitness => k_is)
      (case a0 => k_is)
      (case i0 => k_is)
      (case l0 => k_is)
      (case c0 => k_is)
      (case k0 => k_is)
      (case a1 => k_is)
      (case l1 => k_is)
      (case c1 => k_is)
      (case k1 => k_is)
      (case a2 => k_is)
      (case l2 => k_is)
      (case c2 => k_is)
      (case k2 => k_is)
      (case a3 => k_is)
      (case l3 => k_is)
      (case c3 => k_is)
      (case k3 => k_is)
      (case a4 => k_is)
      (case l4 => k_is)
      (case c4 => k_is)
      (case k4 => k_is)
      (case a5 => k_is)
      (case l5 => k_is)
      (case c5 => k_is)
      (case k5 => k_is)
      (case a6 => k_is)
      (case l6 => k_is)
      (case c6 => k_is)
      (case k6 => k_is)
      (case a7 => k_is)
      (case l7 => k_is)
      (case c7 => k_is)
      (case k7 => k_is)
      (case a8 => k_is)
      (case l8 => k_is)
      (case c8 => k_is)
      (case k8 => k_is)
      (case a9 => k_is)
      (case l9 => k_is)
      (case c9 => k_is)
      (case k9 => k_is)
      (case a10 => k_is)
      (case l10 => k_is)
      (case c10 => k_is)
      (case k10 => k_is)
      (case a11 => k_is)
      (case l11 => k_is)
      (case c11 => k_is)
      (case k11 => k_is)
      (case a12 => k_is)
      (case l12 => k_is)
      (case c12 => k_is)
      (case k12 => k_is)
      (case a13 => k_is)
      (case l13 => k_is)
      (case c13 => k_is)
      (case k13 => k_is)
      (case a14 => k_is)
      (case l14 => k_is)
      (case c14 => k_is)
      (case k14 => k_is)
      (case a15 => k_is)
      (case l15 => k_is)
      (case c15 => k_is)
      (case k15 => k_is)
      (case a16 => k_is)
      (case l16 => k_is)
      (case c16 => k_is)
      (case k16 => k_is)
      (case a17 => k_is)
      (case l17 => k_is)
      (case c17 => k_is)
      (case k17 => k_is)
      (case a18 => k_is)
      (case l18 => k_is)
      (case c18 => k_is)
      (case k18 => k_is)
      (case a19 => k_is)
      (case l19 => k_is)
      (case c19 => k_is)
      (case k19 => k_is)
      (case a20 => k_is)
      (case l20 => k_is)
      (case c20 => k_is)
      (case k20 => k_is)
      (case a21 => k_is)
      (case l21 => k_is)
      (case c21 => k_is)
      (case k21 => k_is)
      (case a22 => k_is)
      (case l22 => k_is)
      (case c22 => k_is)
      (case k22 => k_is)
      (case a23 => k_is)
      (case l23 => k_is)
      (case c23 => k_is)
      (case k23 => k_is)
      (case xl_InvalidWitness => k_is)
      (case sa_InvalidWitness => k_is)
      (case ga_InvalidWitness => k_is)
      (case gg_InvalidWitness => k_is)
      (case ti_InvalidWitness => k_is)
      (case kc_InvalidWitness => k_is)
      (case ex_InvalidWitness => k_is)
      (case ty_InvalidWitness => k_is)
      (case hd_InvalidWitness => k_is)
      (case il_InvalidWitness => k_is)
      (case ss_InvalidWitness => k_is)
      (case n_InvalidWitness_index => k_is)
      (case sysd => k_is)
      (case v_MAX_CHECKED_CALLS => k_is)
      (case z_abs => k_is)
      (case z_bool => k_is)
      (case z_enumerate => k_is)
      (case z_int => k_is)
      (case z_isinstance => k_is)
      (case z_len => k_is)
      (case z_list => k_is)
      (case z_max => k_is)
      (case z_min => k_is)
      (case z_range => k_is)
      (case z_repr => k_is)
      (case z_sum => k_is)
      (case z_tuple => k_is)
      (case z_zip => k_is)
    have e := hmg.symm.trans e1
    cases e
    exact ⟨_, T.fd_law, CS.sp_law _, KX, e2, fun H a ns hl _ hS => ⟨a, ns, rfl, hS, hl, fun _ => rfl⟩, fun base _ _ => CS.ok_law T⟩
