import PyProof.Rows.All
import Wide.All
import OpenK.AllK
import Wide.FinOn
import HandS.ForMost
import HandS.Zip
import HandS.TupAny
import HandS.TupMul
import HandS.Deep
import HandS.Style
import HandS.SetFor
import HandS.Strs
import HandS.Walk
import HandS.IsInst
import HandS.Conv
import HandS.Wide
import HandS.WideBits
import HandS.Evl
import HandS.MakeKwOnly
import KE.GoesMore
import KE.GoesEnumKw
import KE.KBits
import KE.KExcIs
import HandS.ExcInit
import HandS.ExcField
import HandS.ExcOwn
import HandS.WordsExc
import HandS.SetFor
import HandS.Lambda
import KE.KLam
import HandS.ExcInit
import HandS.ExcField
import HandS.ExcOwn
import HandS.WordsExc
import KE.RegKIsAll
import PySem.Challenge.RW_calledseats_k03_invalid_tables_and_moves
set_option Elab.async false
set_option linter.all false
set_option maxRecDepth 100000
set_option maxHeartbeats 4000000


namespace CZ
open PySem PySem.Spec PyProof.Rows L2
open PySem.Sem (wp)
/-- one draw of a zip: strict or not -/
def zdraw (b : Bool) (it : Value) : Sem (Option Value) := if b = true then Builtin.SmallTypes.nextOrEnd it else (Builtin.SmallTypes.nextOf it >>= fun x => pure (some x))
/-- a zip object: f0 what it has handed out, b its strictness -/
abbrev ZipO (h : Heap) (z TI TO : Addr) (f0 : Value) (b : Bool) : Prop := h.get? z = some { cls := .type "zip", data := .fields #[f0, .bool false, .bool b, .ref TI, .ref TO] }
abbrev TupO (h : Heap) (T : Addr) (vs : Array Value) : Prop := h.get? T = some { cls := .type "tuple", data := .seq vs }
theorem val_b (b : Bool) : (Value.bool b == Value.bool true) = b := by cases b <;> rfl
section
variable {prog : Program} {w : World} {A : Around} {E : Value → Shared → Prop} {s : Shared} {b : Bool}
theorem zdraw_item {it : Addr} {fp : List Addr} {n i : Nat} {P : Nat → Value → Prop} {St : Nat → Heap → Prop} {Q : Option Value → Shared → Prop} (D : Draws prog w A it fp n P St) (hi : i < n) (st : St i s.heap)
    (hQ : ∀ x h' tk, P i x → St (i + 1) h' → Heap.SameBut it s.heap h' → Q (some x) { s with heap := h', toks := tk }) : wpAny (model prog w) A (zdraw b (.ref it)) Q E s := by
  cases b with
  | false => exact wpAny_bind (m := Builtin.SmallTypes.nextOf (.ref it)) (D.item i s _ _ hi st fun x h' tk p st' sb => wpAny_pure (hQ x h' tk p st' sb))
  | true =>
    show wpAny _ _ (Builtin.SmallTypes.nextOrEnd (.ref it)) _ _ _
    unfold Builtin.SmallTypes.nextOrEnd
    exact wpAny_bind (wpAny_attempt (D.item i s _ _ hi st fun x h' tk p st' sb => wpAny_pure (hQ x h' tk p st' sb)))
theorem zend_strict {it : Addr} {fp : List Addr} {n : Nat} {P : Nat → Value → Prop} {St : Nat → Heap → Prop} {Q : Option Value → Shared → Prop} (D : Draws prog w A it fp n P St) (st : St n s.heap)
    (hQ : ∀ h', Heap.ExtBut it s.heap h' → Q none { s with heap := h' }) : wpAny (model prog w) A (Builtin.SmallTypes.nextOrEnd (.ref it)) Q E s := by
  unfold Builtin.SmallTypes.nextOrEnd
  refine wpAny_bind (wpAny_attempt (D.done s _ _ st fun h' e eb he => ?_))
  obtain ⟨o, ho, hc⟩ := he
  exact wpAny_bind (wpAny_isInstance (T := "StopIteration") (b := true) ⟨o, ho, hc⟩ isSubtype_stop (wpAny_pure (hQ h' eb)))
theorem upd_tup {T : Addr} {vs : Array Value} {x : Value} {k : Nat} {Q : Unit → Shared → Prop} (hT : TupO s.heap T vs) (hz : vs.size ≤ 8)
    (h : ∀ h', TupO h' T (vs.setIfInBounds k x) → Heap.SameBut T s.heap h' → Q () { s with heap := h' }) : wpAny (model prog w) A (updateSeq T (·.setIfInBounds k x)) Q E s := by
  have z8 : (8 : Nat) ≤ sizeLine := by decide
  refine wpAny_updateSeq hT rfl (h _ ?_ (Heap.SameBut.update ..)) (Nat.le_trans hz z8) (by rw [Array.size_setIfInBounds]; exact Nat.le_succ_of_le (Nat.le_trans hz z8))
  unfold TupO
  rw [Heap.get?_update_self _ hT rfl]
  simp [Obj.mapSeq]
theorem iter_zip {z TI TO : Addr} {f0 : Value} {Q : Value → Shared → Prop} (hz : ZipO s.heap z TI TO f0 b) (h : Q (.ref z) s) : wpAny (model prog w) A (pyIter (.ref z)) Q E s := by
  have hT : s.TypeIs (.ref z) "zip" := ⟨_, hz, rfl⟩
  exact wpAny_pyIter_slot hT F.slot_zip_iter (wpAny_call_entry F.slot_zip_iter hT F.entry_zip_iter (wpAny_pure ⟨_, rfl, "zip", _, hT, F.slot_zip_next.lookup, h⟩) (F.args_zip_iter_1 _))
/-- the tuple that was handed out is let go -/
theorem go_zip {elts : List Expr} {x1} {pos : Pos} {z TI TO T : Addr} {Q : Unit → Shared → Prop} (hz : ZipO s.heap z TI TO (rawInt T) b)
    (hQ : ∀ h', ZipO h' z TI TO .none b → Heap.SameBut z s.heap h' → Q () { s with heap := h' }) : wpAny (model prog w) A (letOwnedTupleGo (.Tuple elts x1 pos) (.ref z) (.ref T)) Q E s := by
  unfold letOwnedTupleGo
  refine wpAny_bind (wpAny_load hz ?_)
  show wpAny _ _ (ite _ _ _) Q E s
  rw [if_pos (by simp)]
  exact wpAny_bind (wpAny_rule (wpAny_setField_rec hz (by simp) fun h' hz' hs' => hQ h' hz' hs'))
/-- the StopIteration that a zip ends by -/
theorem stop_it {Q : Fin → Shared → Prop} (hh : A.handled = none) (hE : ∀ h' e, (∀ c o, s.heap.get? c = some o → h'.get? c = some o) → (∃ o, h'.get? e = some o ∧ o.cls = .type "StopIteration") → E (.ref e) { s with heap := h' }) :
    wpAny (model prog w) A (PySem.Builtin.SmallTypes.stopIteration : Sem Fin) Q E s := by
  unfold PySem.Builtin.SmallTypes.stopIteration
  show wpAny _ _ (newExc (.type "StopIteration") [] >>= _) _ _ _
  refine wpAny_bind ?_
  simp only [newExc, newTuple]
  refine wpAny_bind (wpAny_newObj_type ?_ (by size_fits))
  refine wpAny_bind (m := firstArgMember _ _) (wpAny_of_eq (a := Value.none) (by first | rfl | (simp only [firstArgMember]; rfl)) ?_)
  refine wpAny_newObj_type ?_ (by size_fits)
  simp only [raiseNew]
  refine wpAny_bind (wpAny_handled ?_)
  rw [hh]
  exact wpAny_bind (wpAny_pure (wpAny_throw (hE _ _ (fun c o e => Heap.get?_push_of_some _ (Heap.get?_push_of_some _ e)) ⟨_, Heap.get?_push_size _ rfl, rfl⟩)))
end
end CZ

namespace CZ
open PySem PySem.Spec PyProof.Rows L2
open PySem.Sem (wp)
/-- the cells of a zip over 2 iterators lie apart -/
structure Sep2 (z TI TO i1 i2 : Addr) (fp1 fp2 : List Addr) : Prop where
  zTO : z ≠ TO
  zTI : z ≠ TI
  TOTI : TO ≠ TI
  m1 : i1 ∈ fp1
  z1 : z ∉ fp1
  T1 : TO ∉ fp1
  I1 : TI ≠ i1
  s2_1 : i2 ∉ fp1
  m2 : i2 ∈ fp2
  z2 : z ∉ fp2
  T2 : TO ∉ fp2
  I2 : TI ≠ i2
  s1_2 : i1 ∉ fp2
section
variable {prog : Program} {w : World} {A : Around} {E : Value → Shared → Prop} {s : Shared} {b : Bool}
theorem next_item2 {z TI TO i1 i2 : Addr} {fp1 fp2 : List Addr} {n1 n2 i : Nat} {P1 P2 : Nat → Value → Prop} {St1 St2 : Nat → Heap → Prop} {a1 a2 : Value} {Q : Value → Shared → Prop} (S : Sep2 z TI TO i1 i2 fp1 fp2) (D1 : Draws prog w A i1 fp1 n1 P1 St1) (D2 : Draws prog w A i2 fp2 n2 P2 St2)
    (hz : ZipO s.heap z TI TO .none b) (hTI : TupO s.heap TI #[.ref i1, .ref i2]) (hTO : TupO s.heap TO #[a1, a2]) (st1 : St1 i s.heap) (st2 : St2 i s.heap) (hi1 : i < n1) (hi2 : i < n2)
    (hQ : ∀ x1 x2 h' tk, P1 i x1 → P2 i x2 → ZipO h' z TI TO (rawInt s.heap.objs.size) b → TupO h' TO #[x1, x2] → St1 (i + 1) h' → St2 (i + 1) h' → TupO h' s.heap.objs.size #[x1, x2] →
      (∀ c o, c ≠ z → c ≠ TO → c ≠ i1 → c ≠ i2 → s.heap.get? c = some o → h'.get? c = some o) → Q (.ref s.heap.objs.size) { s with heap := h', toks := tk }) :
    wpAny (model prog w) A (Builtin.«zip.__next__» ⟨[.ref z], []⟩) (fun fin s' => ∃ v, fin = .done (.ret v) ∧ Q v s') E s := by
  obtain ⟨hp, g, d, tk0, os⟩ := s
  refine wpAny_bind (m := field (.ref z) 2) (wpAny_field hz rfl (x := .bool b) rfl ?_)
  refine wpAny_bind (m := field (.ref z) 3) (wpAny_field hz rfl (x := .ref TI) rfl ?_)
  refine wpAny_bind (wpAny_seqItems hTI rfl ?_)
  show wpAny _ _ (Builtin.SmallTypes.ownedTupleIsFree (.ref z) >>= _) _ _ _
  rw [val_b]
  refine wpAny_bind ?_
  unfold Builtin.SmallTypes.ownedTupleIsFree
  refine wpAny_bind (wpAny_field hz rfl (x := .none) rfl (wpAny_pure ?_))
  simp only [if_true]
  refine wpAny_bind (wpAny_rule (wpAny_bind (wpAny_field hz rfl (x := .ref TO) rfl ?_)))
  refine wpAny_bind (wpAny_setField_rec hz (by simp) fun g0 hz0 hs0 => wpAny_bind ?_)
  replace hs0 : Heap.SameBut z hp g0 := hs0
  replace hz0 : ZipO g0 z TI TO .ellipsis b := hz0
  have hT0 : TupO g0 TO #[a1, a2] := hs0.extBut _ _ S.zTO.symm hTO
  have t1_0 : St1 i g0 := D1.frame _ _ _ st1 fun c hc o e => hs0.extBut c o (fun q => S.z1 (q ▸ hc)) e
  have t2_0 : St2 i g0 := D2.frame _ _ _ st2 fun c hc o e => hs0.extBut c o (fun q => S.z2 (q ▸ hc)) e
  have k0 : ∀ c o, c ≠ z → c ≠ TO → c ≠ i1 → c ≠ i2 → hp.get? c = some o → g0.get? c = some o := fun c o q0 _ _ _ e => hs0.extBut c o q0 e
  simp only [List.zipIdx_cons, List.zipIdx_nil, List.forIn_cons, List.forIn_nil]
  refine wpAny_bind (wpAny_bind (wpAny_onRaise (m := zdraw b (.ref i1)) (zdraw_item (s := ⟨g0, g, d, tk0, os⟩) D1 hi1 t1_0 fun x1 d1 tk1 p1 n1 hd1 => ?_)))
  replace hd1 : Heap.SameBut i1 g0 d1 := hd1
  have hU1 : TupO d1 TO #[a1, a2] := hd1.extBut _ _ (fun q => S.T1 (q ▸ S.m1)) hT0
  refine wpAny_bind (wpAny_seqItems (s := ⟨d1, g, d, tk1, os⟩) hU1 rfl ?_)
  refine wpAny_bind (upd_tup (s := ⟨d1, g, d, tk1, os⟩) hU1 (by simp) fun g1 hT1 hs1 => ?_)
  replace hs1 : Heap.SameBut TO d1 g1 := hs1
  replace hT1 : TupO g1 TO #[x1, a2] := hT1
  have hz1 : ZipO g1 z TI TO .ellipsis b := hs1.extBut _ _ S.zTO (hd1.extBut _ _ (fun q => S.z1 (q ▸ S.m1)) hz0)
  have t1_1 : St1 (i + 1) g1 := D1.frame _ _ _ n1 fun c hc o e => hs1.extBut c o (fun q => S.T1 (q ▸ hc)) e
  have t2_1 : St2 i g1 := D2.frame _ _ _ t2_0 fun c hc o e => hs1.extBut c o (fun q => S.T2 (q ▸ hc)) (hd1.extBut c o (fun q => S.s1_2 (q ▸ hc)) e)
  have k1 : ∀ c o, c ≠ z → c ≠ TO → c ≠ i1 → c ≠ i2 → hp.get? c = some o → g1.get? c = some o := fun c o qz qT q1 q2 e => hs1.extBut c o qT (hd1.extBut c o q1 (k0 c o qz qT q1 q2 e))
  have e1 : g1.objs.size = g0.objs.size := by rw [hs1.1, hd1.1]
  refine wpAny_bind (wpAny_letGo (wpAny_pure ?_))
  refine wpAny_bind (wpAny_bind (wpAny_onRaise (m := zdraw b (.ref i2)) (zdraw_item (s := ⟨g1, g, d, tk1, os⟩) D2 hi2 t2_1 fun x2 d2 tk2 p2 n2 hd2 => ?_)))
  replace hd2 : Heap.SameBut i2 g1 d2 := hd2
  have hU2 : TupO d2 TO #[x1, a2] := hd2.extBut _ _ (fun q => S.T2 (q ▸ S.m2)) hT1
  refine wpAny_bind (wpAny_seqItems (s := ⟨d2, g, d, tk2, os⟩) hU2 rfl ?_)
  refine wpAny_bind (upd_tup (s := ⟨d2, g, d, tk2, os⟩) hU2 (by simp) fun g2 hT2 hs2 => ?_)
  replace hs2 : Heap.SameBut TO d2 g2 := hs2
  replace hT2 : TupO g2 TO #[x1, x2] := hT2
  have hz2 : ZipO g2 z TI TO .ellipsis b := hs2.extBut _ _ S.zTO (hd2.extBut _ _ (fun q => S.z2 (q ▸ S.m2)) hz1)
  have t1_2 : St1 (i + 1) g2 := D1.frame _ _ _ t1_1 fun c hc o e => hs2.extBut c o (fun q => S.T1 (q ▸ hc)) (hd2.extBut c o (fun q => S.s2_1 (q ▸ hc)) e)
  have t2_2 : St2 (i + 1) g2 := D2.frame _ _ _ n2 fun c hc o e => hs2.extBut c o (fun q => S.T2 (q ▸ hc)) e
  have k2 : ∀ c o, c ≠ z → c ≠ TO → c ≠ i1 → c ≠ i2 → hp.get? c = some o → g2.get? c = some o := fun c o qz qT q1 q2 e => hs2.extBut c o qT (hd2.extBut c o q2 (k1 c o qz qT q1 q2 e))
  have e2 : g2.objs.size = g1.objs.size := by rw [hs2.1, hd2.1]
  refine wpAny_bind (wpAny_letGo (wpAny_pure ?_))
  refine wpAny_pure ?_
  refine wpAny_bind (wpAny_seqItems (s := ⟨g2, g, d, tk2, os⟩) hT2 rfl ?_)
  refine wpAny_bind (wpAny_newTuple ?_)
  have hsz : g2.objs.size = hp.objs.size := by rw [e2, e1, hs0.1]
  have hlt : z < g2.objs.size := Heap.lt_size hz2
  refine wpAny_bind ?_
  unfold Builtin.SmallTypes.ownedTupleHandOut
  have hy : ZipO (g2.push { cls := .type "tuple", data := .seq #[x1, x2] }) z TI TO .ellipsis b := Heap.get?_push_of_some _ hz2
  refine wpAny_bind (wpAny_setField_rec hy (by simp) fun u1 hu1 hv1 => wpAny_setField_rec hu1 (by simp) fun u2 hu2 hv2 => ?_)
  have up : ∀ c o, c ≠ z → g2.get? c = some o → u2.get? c = some o := fun c o q e => hv2.extBut c o q (hv1.extBut c o q (Heap.get?_push_of_some _ e))
  have hN : TupO u2 g2.objs.size #[x1, x2] := hv2.extBut _ _ (Nat.ne_of_gt hlt) (hv1.extBut _ _ (Nat.ne_of_gt hlt) (Heap.get?_push_size _ rfl))
  have hZ : ZipO u2 z TI TO (rawInt g2.objs.size) b := hu2
  rw [hsz] at hN hZ
  refine wpAny_pure ⟨_, rfl, ?_⟩
  show Q (.ref g2.objs.size) ⟨u2, g, d, tk2, os⟩
  rw [hsz]
  exact hQ x1 x2 u2 tk2 p1 p2 hZ (up _ _ S.zTO.symm hT2) (D1.frame _ _ _ t1_2 fun c hc o e => up c o (fun q => S.z1 (q ▸ hc)) e) (D2.frame _ _ _ t2_2 fun c hc o e => up c o (fun q => S.z2 (q ▸ hc)) e) hN fun c o qz qT q1 q2 e => up c o qz (k2 c o qz qT q1 q2 e)
theorem next_end2 {z TI TO i1 i2 : Addr} {fp1 fp2 : List Addr} {n : Nat} {P1 P2 : Nat → Value → Prop} {St1 St2 : Nat → Heap → Prop} {a1 a2 : Value} {Q : Fin → Shared → Prop} (hh : A.handled = none) (S : Sep2 z TI TO i1 i2 fp1 fp2) (D1 : Draws prog w A i1 fp1 n P1 St1) (D2 : Draws prog w A i2 fp2 n P2 St2)
    (hz : ZipO s.heap z TI TO .none b) (hTI : TupO s.heap TI #[.ref i1, .ref i2]) (hTO : TupO s.heap TO #[a1, a2]) (st1 : St1 n s.heap) (st2 : St2 n s.heap)
    (hE : ∀ h' e, (∀ c o, c ≠ z → c ≠ TO → c ≠ i1 → c ≠ i2 → s.heap.get? c = some o → h'.get? c = some o) → (∃ o, h'.get? e = some o ∧ o.cls = .type "StopIteration") → E (.ref e) { s with heap := h' }) :
    wpAny (model prog w) A (Builtin.«zip.__next__» ⟨[.ref z], []⟩) Q E s := by
  obtain ⟨hp, g, d, tk0, os⟩ := s
  refine wpAny_bind (m := field (.ref z) 2) (wpAny_field hz rfl (x := .bool b) rfl ?_)
  refine wpAny_bind (m := field (.ref z) 3) (wpAny_field hz rfl (x := .ref TI) rfl ?_)
  refine wpAny_bind (wpAny_seqItems hTI rfl ?_)
  show wpAny _ _ (Builtin.SmallTypes.ownedTupleIsFree (.ref z) >>= _) _ _ _
  rw [val_b]
  refine wpAny_bind ?_
  unfold Builtin.SmallTypes.ownedTupleIsFree
  refine wpAny_bind (wpAny_field hz rfl (x := .none) rfl (wpAny_pure ?_))
  simp only [if_true]
  refine wpAny_bind (wpAny_rule (wpAny_bind (wpAny_field hz rfl (x := .ref TO) rfl ?_)))
  refine wpAny_bind (wpAny_setField_rec hz (by simp) fun g0 hz0 hs0 => wpAny_bind ?_)
  replace hs0 : Heap.SameBut z hp g0 := hs0
  replace hz0 : ZipO g0 z TI TO .ellipsis b := hz0
  have t1_0 : St1 n g0 := D1.frame _ _ _ st1 fun c hc o e => hs0.extBut c o (fun q => S.z1 (q ▸ hc)) e
  have t2_0 : St2 n g0 := D2.frame _ _ _ st2 fun c hc o e => hs0.extBut c o (fun q => S.z2 (q ▸ hc)) e
  simp only [List.zipIdx_cons, List.zipIdx_nil, List.forIn_cons, List.forIn_nil]
  refine wpAny_bind (wpAny_bind (wpAny_onRaise ?_))
  cases b with
  | false =>
    refine wpAny_bind (m := Builtin.SmallTypes.nextOf (.ref i1)) (D1.done ⟨g0, g, d, tk0, os⟩ _ _ t1_0 fun y e hy he => ?_)
    replace hy : Heap.ExtBut i1 g0 y := hy
    obtain ⟨oe, hoe, hce⟩ := he
    replace hoe : y.get? e = some oe := hoe
    have hzy : ZipO y z TI TO .ellipsis false := hy _ _ (fun q => S.z1 (q ▸ S.m1)) hz0
    have hez : e ≠ z := fun x => by subst x; rw [hzy] at hoe; cases hoe; simp at hce
    refine wpAny_setField_rec (s := ⟨y, g, d, tk0, os⟩) hzy (by simp) fun y2 _ hv => ?_
    replace hv : Heap.SameBut z y y2 := hv
    exact hE y2 e (fun c o qz qT q1 q2 x => hv.extBut c o qz (hy c o q1 (hs0.extBut c o qz x))) ⟨oe, hv.extBut _ _ hez hoe, hce⟩
  | true =>
    refine zend_strict (s := ⟨g0, g, d, tk0, os⟩) D1 t1_0 fun y hy => ?_
    replace hy : Heap.ExtBut i1 g0 y := hy
    have hzy : ZipO y z TI TO .ellipsis true := hy _ _ (fun q => S.z1 (q ▸ S.m1)) hz0
    have t2_1 : St2 n y := D2.frame _ _ _ t2_0 fun c hc o e => hy c o (fun q => S.s1_2 (q ▸ hc)) e
    refine wpAny_bind (wpAny_setField_rec (s := ⟨y, g, d, tk0, os⟩) hzy (by simp) fun y1 _ hv1 => ?_)
    replace hv1 : Heap.SameBut z y y1 := hv1
    have r2_1 : St2 n y1 := D2.frame _ _ _ t2_1 fun c hc o e => hv1.extBut c o (fun q => S.z2 (q ▸ hc)) e
    have k1 : ∀ c o, c ≠ z → c ≠ TO → c ≠ i1 → c ≠ i2 → hp.get? c = some o → y1.get? c = some o := fun c o qz qT q1 q2 e => hv1.extBut c o qz (hy c o q1 (hs0.extBut c o qz e))
    refine wpAny_bind ?_
    refine wpAny_bind ?_
    simp only [List.drop_succ_cons, List.drop_zero, List.zipIdx_cons, List.zipIdx_nil, List.forIn_cons, List.forIn_nil]
    refine wpAny_bind (wpAny_bind (zend_strict (s := ⟨y1, g, d, tk0, os⟩) D2 r2_1 fun y2 hy2 => ?_))
    replace hy2 : Heap.ExtBut i2 y1 y2 := hy2
    have k2 : ∀ c o, c ≠ z → c ≠ TO → c ≠ i1 → c ≠ i2 → hp.get? c = some o → y2.get? c = some o := fun c o qz qT q1 q2 e => hy2 c o q2 (k1 c o qz qT q1 q2 e)
    refine wpAny_pure ?_
    refine wpAny_pure ?_
    exact wpAny_bind (wpAny_rule (stop_it (s := ⟨y2, g, d, tk0, os⟩) hh fun h2 e kk he => hE h2 e (fun c o qz qT q1 q2 x => kk c o (k2 c o qz qT q1 q2 x)) he))
theorem py_item2 {z TI TO i1 i2 : Addr} {fp1 fp2 : List Addr} {n1 n2 i : Nat} {P1 P2 : Nat → Value → Prop} {St1 St2 : Nat → Heap → Prop} {a1 a2 : Value} {Q : Option Value → Shared → Prop} (S : Sep2 z TI TO i1 i2 fp1 fp2) (D1 : Draws prog w A.in1 i1 fp1 n1 P1 St1) (D2 : Draws prog w A.in1 i2 fp2 n2 P2 St2)
    (hz : ZipO s.heap z TI TO .none b) (hTI : TupO s.heap TI #[.ref i1, .ref i2]) (hTO : TupO s.heap TO #[a1, a2]) (st1 : St1 i s.heap) (st2 : St2 i s.heap) (hi1 : i < n1) (hi2 : i < n2)
    (hQ : ∀ x1 x2 h' tk, P1 i x1 → P2 i x2 → ZipO h' z TI TO (rawInt s.heap.objs.size) b → TupO h' TO #[x1, x2] → St1 (i + 1) h' → St2 (i + 1) h' → TupO h' s.heap.objs.size #[x1, x2] →
      (∀ c o, c ≠ z → c ≠ TO → c ≠ i1 → c ≠ i2 → s.heap.get? c = some o → h'.get? c = some o) → Q (some (.ref s.heap.objs.size)) { s with heap := h', toks := tk }) : wpAny (model prog w) A (pyNext (.ref z)) Q E s := by
  have hT : s.TypeIs (.ref z) "zip" := ⟨_, hz, rfl⟩
  unfold pyNext
  refine wpAny_bind (wpAny_attempt (wpAny_callSpecial?_slot (name := Str.ofString "__next__") hT F.slot_zip_next (wpAny_call_entry F.slot_zip_next hT F.entry_zip_next ?_ (F.args_zip_next_1 _))))
  exact next_item2 S D1 D2 hz hTI hTO st1 st2 hi1 hi2 fun x1 x2 h2 tk p1 p2 q1 q2 u1 u2 q3 q4 => wpAny_pure (hQ x1 x2 h2 tk p1 p2 q1 q2 u1 u2 q3 q4)
theorem py_end2 {z TI TO i1 i2 : Addr} {fp1 fp2 : List Addr} {n : Nat} {P1 P2 : Nat → Value → Prop} {St1 St2 : Nat → Heap → Prop} {a1 a2 : Value} {Q : Option Value → Shared → Prop} (hh : A.handled = none) (S : Sep2 z TI TO i1 i2 fp1 fp2) (D1 : Draws prog w A.in1 i1 fp1 n P1 St1) (D2 : Draws prog w A.in1 i2 fp2 n P2 St2)
    (hz : ZipO s.heap z TI TO .none b) (hTI : TupO s.heap TI #[.ref i1, .ref i2]) (hTO : TupO s.heap TO #[a1, a2]) (st1 : St1 n s.heap) (st2 : St2 n s.heap)
    (hQ : ∀ h', (∀ c o, c ≠ z → c ≠ TO → c ≠ i1 → c ≠ i2 → s.heap.get? c = some o → h'.get? c = some o) → Q none { s with heap := h' }) : wpAny (model prog w) A (pyNext (.ref z)) Q E s := by
  have hT : s.TypeIs (.ref z) "zip" := ⟨_, hz, rfl⟩
  unfold pyNext
  refine wpAny_bind (wpAny_attempt (wpAny_callSpecial?_slot (name := Str.ofString "__next__") hT F.slot_zip_next (wpAny_call_entry F.slot_zip_next hT F.entry_zip_next ?_ (F.args_zip_next_1 _))))
  refine next_end2 (A := A.in1) hh S D1 D2 hz hTI hTO st1 st2 fun h2 e kk he => ?_
  obtain ⟨o, ho, hc⟩ := he
  exact wpAny_bind (wpAny_isInstance (T := "StopIteration") (b := true) ⟨o, ho, hc⟩ isSubtype_stop (wpAny_pure (hQ _ kk)))
theorem typeCall_strict2 (v1 v2 x : Value) : checkTypeCall "zip" ⟨[v1, v2], [(Str.ofString "strict", x)]⟩ = pure () := by kernel_rfl
theorem newCall_strict2 (v1 v2 x : Value) : checkBuiltinCall "zip.__new__" ⟨[.type "zip", v1, v2], [(Str.ofString "strict", x)]⟩ = pure () := by kernel_rfl
theorem initArgs_strict2 (obj v1 v2 x : Value) : argsOk "object.__init__" ⟨[obj, v1, v2], [(Str.ofString "strict", x)]⟩ := by unfold argsOk; kernel_rfl
abbrev sT2 (h : Heap) (o1 o2 : Obj) : Heap := (((h.push o1).push o2).push { cls := .type "tuple", data := .seq #[.ref h.objs.size, .ref (h.push o1).objs.size] })
abbrev sO2 (h : Heap) (o1 o2 : Obj) : Heap := (sT2 h o1 o2).push { cls := .type "tuple", data := .seq #[.none, .none] }
abbrev sZ2 (h : Heap) (o1 o2 : Obj) : Heap := (sO2 h o1 o2).push { cls := .type "zip", data := .fields #[.none, .bool false, .bool true, .ref ((h.push o1).push o2).objs.size, .ref (sT2 h o1 o2).objs.size] }
theorem meets_strict2 {v1 v2 : Value} {o1 o2 : Obj} {G1 G2 : Heap → Prop} (B1 : Begins v1 o1 G1) (B2 : Begins v2 o2 G2) :
    Meets (Builtin.«zip.__new__» ⟨[.type "zip", v1, v2], [(Str.ofString "strict", .bool true)]⟩) (fun _ R s => (G1 s.heap ∧ G2 s.heap) ∧ R (.ok (.ret (.ref (sO2 s.heap o1 o2).objs.size))) { s with heap := (sZ2 s.heap o1 o2) }) :=
  .of_wp fun prog w A R s h => by
    obtain ⟨hp, g, d, tk, os⟩ := s
    obtain ⟨⟨h1, h2⟩, h⟩ := h
    have hsub := sub_zip
    have e1 : (Str.ofString "strict" != ("strict" : Str)) = false := by decide +kernel
    have w1 : ∀ {A' : Around} {E : Value → Shared → Prop} {Q : Value → Shared → Prop}, Q (.ref hp.objs.size) ⟨(hp.push o1), g, d, tk, os⟩ → wpAny (model prog w) A' (pyIter v1) Q E ⟨hp, g, d, tk, os⟩ := fun q => B1.iter prog w _ _ ⟨hp, g, d, tk, os⟩ _ (B1.keeps _ _ h1 fun c u e => e) q
    have w2 : ∀ {A' : Around} {E : Value → Shared → Prop} {Q : Value → Shared → Prop}, Q (.ref (hp.push o1).objs.size) ⟨((hp.push o1).push o2), g, d, tk, os⟩ → wpAny (model prog w) A' (pyIter v2) Q E ⟨(hp.push o1), g, d, tk, os⟩ := fun q => B2.iter prog w _ _ ⟨(hp.push o1), g, d, tk, os⟩ _ (B2.keeps _ _ h2 fun c u e => (Heap.get?_push_of_some _ e)) q
    wp_walk using w1, w2
    exact ⟨_, rfl, h⟩
/-- zip(.., strict=True) of 2: its new cells -/
theorem begins_strict2 {v1 v2 : Value} {o1 o2 : Obj} {G1 G2 : Heap → Prop} {Q : Value → Shared → Prop} (B1 : Begins v1 o1 G1) (B2 : Begins v2 o2 G2) (h1 : G1 s.heap) (h2 : G2 s.heap)
    (h : ∀ h', ZipO h' (s.heap.objs.size + 4) (s.heap.objs.size + 2) (s.heap.objs.size + 3) .none true → TupO h' (s.heap.objs.size + 2) #[.ref s.heap.objs.size, .ref (s.heap.objs.size + 1)] → TupO h' (s.heap.objs.size + 3) #[.none, .none] → h'.get? s.heap.objs.size = some o1 → h'.get? (s.heap.objs.size + 1) = some o2 → (∀ c o, s.heap.get? c = some o → h'.get? c = some o) → Q (.ref (s.heap.objs.size + 4)) { s with heap := h' }) :
    wpAny (model prog w) A (call (.type "zip") [v1, v2] [(Str.ofString "strict", .bool true)]) Q E s := by
  refine callType_newKw F.called_zip (by decide) (typeCall_strict2 _ _ _) (newCall_strict2 _ _ _) (fun obj => initArgs_strict2 obj _ _ _) F.entry_zip_new (meets_strict2 B1 B2) ⟨⟨h1, h2⟩, ?_⟩
  have z1 : (s.heap.push o1).objs.size = s.heap.objs.size + 1 := by rw [Heap.size_push]
  have z2 : ((s.heap.push o1).push o2).objs.size = s.heap.objs.size + 2 := by rw [Heap.size_push, z1]
  have z3 : (sT2 s.heap o1 o2).objs.size = s.heap.objs.size + 3 := by rw [Heap.size_push, z2]
  have z4 : (sO2 s.heap o1 o2).objs.size = s.heap.objs.size + 4 := by rw [Heap.size_push, z3]
  have z5 : (sZ2 s.heap o1 o2).objs.size = s.heap.objs.size + 5 := by rw [Heap.size_push, z4]
  have q0 : (sZ2 s.heap o1 o2).get? s.heap.objs.size = some o1 := (Heap.get?_push_of_some _ (Heap.get?_push_of_some _ (Heap.get?_push_of_some _ (Heap.get?_push_of_some _ (Heap.get?_push_size _ B1.free)))))
  have q1 : (sZ2 s.heap o1 o2).get? (s.heap.push o1).objs.size = some o2 := (Heap.get?_push_of_some _ (Heap.get?_push_of_some _ (Heap.get?_push_of_some _ (Heap.get?_push_size _ B2.free))))
  rw [z1] at q1
  have q2 : (sZ2 s.heap o1 o2).get? ((s.heap.push o1).push o2).objs.size = some ({ cls := .type "tuple", data := .seq #[.ref s.heap.objs.size, .ref (s.heap.push o1).objs.size] } : Obj) := (Heap.get?_push_of_some _ (Heap.get?_push_of_some _ (Heap.get?_push_size _ rfl)))
  rw [z2] at q2
  have q3 : (sZ2 s.heap o1 o2).get? (sT2 s.heap o1 o2).objs.size = some ({ cls := .type "tuple", data := .seq #[.none, .none] } : Obj) := (Heap.get?_push_of_some _ (Heap.get?_push_size _ rfl))
  rw [z3] at q3
  have q4 : (sZ2 s.heap o1 o2).get? (sO2 s.heap o1 o2).objs.size = some ({ cls := .type "zip", data := .fields #[.none, .bool false, .bool true, .ref ((s.heap.push o1).push o2).objs.size, .ref (sT2 s.heap o1 o2).objs.size] } : Obj) := (Heap.get?_push_size _ rfl)
  rw [z4] at q4
  rw [z1] at q2
  rw [z3, z2] at q4
  show _ ∧ _
  rw [z4]
  exact ⟨⟨_, q4, rfl⟩, h _ q4 q2 q3 q0 q1 fun c o e => (Heap.get?_push_of_some _ (Heap.get?_push_of_some _ (Heap.get?_push_of_some _ (Heap.get?_push_of_some _ (Heap.get?_push_of_some _ e)))))⟩
end
/-- the cells of a zip over 3 iterators lie apart -/
structure Sep3 (z TI TO i1 i2 i3 : Addr) (fp1 fp2 fp3 : List Addr) : Prop where
  zTO : z ≠ TO
  zTI : z ≠ TI
  TOTI : TO ≠ TI
  m1 : i1 ∈ fp1
  z1 : z ∉ fp1
  T1 : TO ∉ fp1
  I1 : TI ≠ i1
  s2_1 : i2 ∉ fp1
  s3_1 : i3 ∉ fp1
  m2 : i2 ∈ fp2
  z2 : z ∉ fp2
  T2 : TO ∉ fp2
  I2 : TI ≠ i2
  s1_2 : i1 ∉ fp2
  s3_2 : i3 ∉ fp2
  m3 : i3 ∈ fp3
  z3 : z ∉ fp3
  T3 : TO ∉ fp3
  I3 : TI ≠ i3
  s1_3 : i1 ∉ fp3
  s2_3 : i2 ∉ fp3
section
variable {prog : Program} {w : World} {A : Around} {E : Value → Shared → Prop} {s : Shared} {b : Bool}
theorem next_item3 {z TI TO i1 i2 i3 : Addr} {fp1 fp2 fp3 : List Addr} {n1 n2 n3 i : Nat} {P1 P2 P3 : Nat → Value → Prop} {St1 St2 St3 : Nat → Heap → Prop} {a1 a2 a3 : Value} {Q : Value → Shared → Prop} (S : Sep3 z TI TO i1 i2 i3 fp1 fp2 fp3) (D1 : Draws prog w A i1 fp1 n1 P1 St1) (D2 : Draws prog w A i2 fp2 n2 P2 St2) (D3 : Draws prog w A i3 fp3 n3 P3 St3)
    (hz : ZipO s.heap z TI TO .none b) (hTI : TupO s.heap TI #[.ref i1, .ref i2, .ref i3]) (hTO : TupO s.heap TO #[a1, a2, a3]) (st1 : St1 i s.heap) (st2 : St2 i s.heap) (st3 : St3 i s.heap) (hi1 : i < n1) (hi2 : i < n2) (hi3 : i < n3)
    (hQ : ∀ x1 x2 x3 h' tk, P1 i x1 → P2 i x2 → P3 i x3 → ZipO h' z TI TO (rawInt s.heap.objs.size) b → TupO h' TO #[x1, x2, x3] → St1 (i + 1) h' → St2 (i + 1) h' → St3 (i + 1) h' → TupO h' s.heap.objs.size #[x1, x2, x3] →
      (∀ c o, c ≠ z → c ≠ TO → c ≠ i1 → c ≠ i2 → c ≠ i3 → s.heap.get? c = some o → h'.get? c = some o) → Q (.ref s.heap.objs.size) { s with heap := h', toks := tk }) :
    wpAny (model prog w) A (Builtin.«zip.__next__» ⟨[.ref z], []⟩) (fun fin s' => ∃ v, fin = .done (.ret v) ∧ Q v s') E s := by
  obtain ⟨hp, g, d, tk0, os⟩ := s
  refine wpAny_bind (m := field (.ref z) 2) (wpAny_field hz rfl (x := .bool b) rfl ?_)
  refine wpAny_bind (m := field (.ref z) 3) (wpAny_field hz rfl (x := .ref TI) rfl ?_)
  refine wpAny_bind (wpAny_seqItems hTI rfl ?_)
  show wpAny _ _ (Builtin.SmallTypes.ownedTupleIsFree (.ref z) >>= _) _ _ _
  rw [val_b]
  refine wpAny_bind ?_
  unfold Builtin.SmallTypes.ownedTupleIsFree
  refine wpAny_bind (wpAny_field hz rfl (x := .none) rfl (wpAny_pure ?_))
  simp only [if_true]
  refine wpAny_bind (wpAny_rule (wpAny_bind (wpAny_field hz rfl (x := .ref TO) rfl ?_)))
  refine wpAny_bind (wpAny_setField_rec hz (by simp) fun g0 hz0 hs0 => wpAny_bind ?_)
  replace hs0 : Heap.SameBut z hp g0 := hs0
  replace hz0 : ZipO g0 z TI TO .ellipsis b := hz0
  have hT0 : TupO g0 TO #[a1, a2, a3] := hs0.extBut _ _ S.zTO.symm hTO
  have t1_0 : St1 i g0 := D1.frame _ _ _ st1 fun c hc o e => hs0.extBut c o (fun q => S.z1 (q ▸ hc)) e
  have t2_0 : St2 i g0 := D2.frame _ _ _ st2 fun c hc o e => hs0.extBut c o (fun q => S.z2 (q ▸ hc)) e
  have t3_0 : St3 i g0 := D3.frame _ _ _ st3 fun c hc o e => hs0.extBut c o (fun q => S.z3 (q ▸ hc)) e
  have k0 : ∀ c o, c ≠ z → c ≠ TO → c ≠ i1 → c ≠ i2 → c ≠ i3 → hp.get? c = some o → g0.get? c = some o := fun c o q0 _ _ _ _ e => hs0.extBut c o q0 e
  simp only [List.zipIdx_cons, List.zipIdx_nil, List.forIn_cons, List.forIn_nil]
  refine wpAny_bind (wpAny_bind (wpAny_onRaise (m := zdraw b (.ref i1)) (zdraw_item (s := ⟨g0, g, d, tk0, os⟩) D1 hi1 t1_0 fun x1 d1 tk1 p1 n1 hd1 => ?_)))
  replace hd1 : Heap.SameBut i1 g0 d1 := hd1
  have hU1 : TupO d1 TO #[a1, a2, a3] := hd1.extBut _ _ (fun q => S.T1 (q ▸ S.m1)) hT0
  refine wpAny_bind (wpAny_seqItems (s := ⟨d1, g, d, tk1, os⟩) hU1 rfl ?_)
  refine wpAny_bind (upd_tup (s := ⟨d1, g, d, tk1, os⟩) hU1 (by simp) fun g1 hT1 hs1 => ?_)
  replace hs1 : Heap.SameBut TO d1 g1 := hs1
  replace hT1 : TupO g1 TO #[x1, a2, a3] := hT1
  have hz1 : ZipO g1 z TI TO .ellipsis b := hs1.extBut _ _ S.zTO (hd1.extBut _ _ (fun q => S.z1 (q ▸ S.m1)) hz0)
  have t1_1 : St1 (i + 1) g1 := D1.frame _ _ _ n1 fun c hc o e => hs1.extBut c o (fun q => S.T1 (q ▸ hc)) e
  have t2_1 : St2 i g1 := D2.frame _ _ _ t2_0 fun c hc o e => hs1.extBut c o (fun q => S.T2 (q ▸ hc)) (hd1.extBut c o (fun q => S.s1_2 (q ▸ hc)) e)
  have t3_1 : St3 i g1 := D3.frame _ _ _ t3_0 fun c hc o e => hs1.extBut c o (fun q => S.T3 (q ▸ hc)) (hd1.extBut c o (fun q => S.s1_3 (q ▸ hc)) e)
  have k1 : ∀ c o, c ≠ z → c ≠ TO → c ≠ i1 → c ≠ i2 → c ≠ i3 → hp.get? c = some o → g1.get? c = some o := fun c o qz qT q1 q2 q3 e => hs1.extBut c o qT (hd1.extBut c o q1 (k0 c o qz qT q1 q2 q3 e))
  have e1 : g1.objs.size = g0.objs.size := by rw [hs1.1, hd1.1]
  refine wpAny_bind (wpAny_letGo (wpAny_pure ?_))
  refine wpAny_bind (wpAny_bind (wpAny_onRaise (m := zdraw b (.ref i2)) (zdraw_item (s := ⟨g1, g, d, tk1, os⟩) D2 hi2 t2_1 fun x2 d2 tk2 p2 n2 hd2 => ?_)))
  replace hd2 : Heap.SameBut i2 g1 d2 := hd2
  have hU2 : TupO d2 TO #[x1, a2, a3] := hd2.extBut _ _ (fun q => S.T2 (q ▸ S.m2)) hT1
  refine wpAny_bind (wpAny_seqItems (s := ⟨d2, g, d, tk2, os⟩) hU2 rfl ?_)
  refine wpAny_bind (upd_tup (s := ⟨d2, g, d, tk2, os⟩) hU2 (by simp) fun g2 hT2 hs2 => ?_)
  replace hs2 : Heap.SameBut TO d2 g2 := hs2
  replace hT2 : TupO g2 TO #[x1, x2, a3] := hT2
  have hz2 : ZipO g2 z TI TO .ellipsis b := hs2.extBut _ _ S.zTO (hd2.extBut _ _ (fun q => S.z2 (q ▸ S.m2)) hz1)
  have t1_2 : St1 (i + 1) g2 := D1.frame _ _ _ t1_1 fun c hc o e => hs2.extBut c o (fun q => S.T1 (q ▸ hc)) (hd2.extBut c o (fun q => S.s2_1 (q ▸ hc)) e)
  have t2_2 : St2 (i + 1) g2 := D2.frame _ _ _ n2 fun c hc o e => hs2.extBut c o (fun q => S.T2 (q ▸ hc)) e
  have t3_2 : St3 i g2 := D3.frame _ _ _ t3_1 fun c hc o e => hs2.extBut c o (fun q => S.T3 (q ▸ hc)) (hd2.extBut c o (fun q => S.s2_3 (q ▸ hc)) e)
  have k2 : ∀ c o, c ≠ z → c ≠ TO → c ≠ i1 → c ≠ i2 → c ≠ i3 → hp.get? c = some o → g2.get? c = some o := fun c o qz qT q1 q2 q3 e => hs2.extBut c o qT (hd2.extBut c o q2 (k1 c o qz qT q1 q2 q3 e))
  have e2 : g2.objs.size = g1.objs.size := by rw [hs2.1, hd2.1]
  refine wpAny_bind (wpAny_letGo (wpAny_pure ?_))
  refine wpAny_bind (wpAny_bind (wpAny_onRaise (m := zdraw b (.ref i3)) (zdraw_item (s := ⟨g2, g, d, tk2, os⟩) D3 hi3 t3_2 fun x3 d3 tk3 p3 n3 hd3 => ?_)))
  replace hd3 : Heap.SameBut i3 g2 d3 := hd3
  have hU3 : TupO d3 TO #[x1, x2, a3] := hd3.extBut _ _ (fun q => S.T3 (q ▸ S.m3)) hT2
  refine wpAny_bind (wpAny_seqItems (s := ⟨d3, g, d, tk3, os⟩) hU3 rfl ?_)
  refine wpAny_bind (upd_tup (s := ⟨d3, g, d, tk3, os⟩) hU3 (by simp) fun g3 hT3 hs3 => ?_)
  replace hs3 : Heap.SameBut TO d3 g3 := hs3
  replace hT3 : TupO g3 TO #[x1, x2, x3] := hT3
  have hz3 : ZipO g3 z TI TO .ellipsis b := hs3.extBut _ _ S.zTO (hd3.extBut _ _ (fun q => S.z3 (q ▸ S.m3)) hz2)
  have t1_3 : St1 (i + 1) g3 := D1.frame _ _ _ t1_2 fun c hc o e => hs3.extBut c o (fun q => S.T1 (q ▸ hc)) (hd3.extBut c o (fun q => S.s3_1 (q ▸ hc)) e)
  have t2_3 : St2 (i + 1) g3 := D2.frame _ _ _ t2_2 fun c hc o e => hs3.extBut c o (fun q => S.T2 (q ▸ hc)) (hd3.extBut c o (fun q => S.s3_2 (q ▸ hc)) e)
  have t3_3 : St3 (i + 1) g3 := D3.frame _ _ _ n3 fun c hc o e => hs3.extBut c o (fun q => S.T3 (q ▸ hc)) e
  have k3 : ∀ c o, c ≠ z → c ≠ TO → c ≠ i1 → c ≠ i2 → c ≠ i3 → hp.get? c = some o → g3.get? c = some o := fun c o qz qT q1 q2 q3 e => hs3.extBut c o qT (hd3.extBut c o q3 (k2 c o qz qT q1 q2 q3 e))
  have e3 : g3.objs.size = g2.objs.size := by rw [hs3.1, hd3.1]
  refine wpAny_bind (wpAny_letGo (wpAny_pure ?_))
  refine wpAny_pure ?_
  refine wpAny_bind (wpAny_seqItems (s := ⟨g3, g, d, tk3, os⟩) hT3 rfl ?_)
  refine wpAny_bind (wpAny_newTuple ?_)
  have hsz : g3.objs.size = hp.objs.size := by rw [e3, e2, e1, hs0.1]
  have hlt : z < g3.objs.size := Heap.lt_size hz3
  refine wpAny_bind ?_
  unfold Builtin.SmallTypes.ownedTupleHandOut
  have hy : ZipO (g3.push { cls := .type "tuple", data := .seq #[x1, x2, x3] }) z TI TO .ellipsis b := Heap.get?_push_of_some _ hz3
  refine wpAny_bind (wpAny_setField_rec hy (by simp) fun u1 hu1 hv1 => wpAny_setField_rec hu1 (by simp) fun u2 hu2 hv2 => ?_)
  have up : ∀ c o, c ≠ z → g3.get? c = some o → u2.get? c = some o := fun c o q e => hv2.extBut c o q (hv1.extBut c o q (Heap.get?_push_of_some _ e))
  have hN : TupO u2 g3.objs.size #[x1, x2, x3] := hv2.extBut _ _ (Nat.ne_of_gt hlt) (hv1.extBut _ _ (Nat.ne_of_gt hlt) (Heap.get?_push_size _ rfl))
  have hZ : ZipO u2 z TI TO (rawInt g3.objs.size) b := hu2
  rw [hsz] at hN hZ
  refine wpAny_pure ⟨_, rfl, ?_⟩
  show Q (.ref g3.objs.size) ⟨u2, g, d, tk3, os⟩
  rw [hsz]
  exact hQ x1 x2 x3 u2 tk3 p1 p2 p3 hZ (up _ _ S.zTO.symm hT3) (D1.frame _ _ _ t1_3 fun c hc o e => up c o (fun q => S.z1 (q ▸ hc)) e) (D2.frame _ _ _ t2_3 fun c hc o e => up c o (fun q => S.z2 (q ▸ hc)) e) (D3.frame _ _ _ t3_3 fun c hc o e => up c o (fun q => S.z3 (q ▸ hc)) e) hN fun c o qz qT q1 q2 q3 e => up c o qz (k3 c o qz qT q1 q2 q3 e)
theorem next_end3 {z TI TO i1 i2 i3 : Addr} {fp1 fp2 fp3 : List Addr} {n : Nat} {P1 P2 P3 : Nat → Value → Prop} {St1 St2 St3 : Nat → Heap → Prop} {a1 a2 a3 : Value} {Q : Fin → Shared → Prop} (hh : A.handled = none) (S : Sep3 z TI TO i1 i2 i3 fp1 fp2 fp3) (D1 : Draws prog w A i1 fp1 n P1 St1) (D2 : Draws prog w A i2 fp2 n P2 St2) (D3 : Draws prog w A i3 fp3 n P3 St3)
    (hz : ZipO s.heap z TI TO .none b) (hTI : TupO s.heap TI #[.ref i1, .ref i2, .ref i3]) (hTO : TupO s.heap TO #[a1, a2, a3]) (st1 : St1 n s.heap) (st2 : St2 n s.heap) (st3 : St3 n s.heap)
    (hE : ∀ h' e, (∀ c o, c ≠ z → c ≠ TO → c ≠ i1 → c ≠ i2 → c ≠ i3 → s.heap.get? c = some o → h'.get? c = some o) → (∃ o, h'.get? e = some o ∧ o.cls = .type "StopIteration") → E (.ref e) { s with heap := h' }) :
    wpAny (model prog w) A (Builtin.«zip.__next__» ⟨[.ref z], []⟩) Q E s := by
  obtain ⟨hp, g, d, tk0, os⟩ := s
  refine wpAny_bind (m := field (.ref z) 2) (wpAny_field hz rfl (x := .bool b) rfl ?_)
  refine wpAny_bind (m := field (.ref z) 3) (wpAny_field hz rfl (x := .ref TI) rfl ?_)
  refine wpAny_bind (wpAny_seqItems hTI rfl ?_)
  show wpAny _ _ (Builtin.SmallTypes.ownedTupleIsFree (.ref z) >>= _) _ _ _
  rw [val_b]
  refine wpAny_bind ?_
  unfold Builtin.SmallTypes.ownedTupleIsFree
  refine wpAny_bind (wpAny_field hz rfl (x := .none) rfl (wpAny_pure ?_))
  simp only [if_true]
  refine wpAny_bind (wpAny_rule (wpAny_bind (wpAny_field hz rfl (x := .ref TO) rfl ?_)))
  refine wpAny_bind (wpAny_setField_rec hz (by simp) fun g0 hz0 hs0 => wpAny_bind ?_)
  replace hs0 : Heap.SameBut z hp g0 := hs0
  replace hz0 : ZipO g0 z TI TO .ellipsis b := hz0
  have t1_0 : St1 n g0 := D1.frame _ _ _ st1 fun c hc o e => hs0.extBut c o (fun q => S.z1 (q ▸ hc)) e
  have t2_0 : St2 n g0 := D2.frame _ _ _ st2 fun c hc o e => hs0.extBut c o (fun q => S.z2 (q ▸ hc)) e
  have t3_0 : St3 n g0 := D3.frame _ _ _ st3 fun c hc o e => hs0.extBut c o (fun q => S.z3 (q ▸ hc)) e
  simp only [List.zipIdx_cons, List.zipIdx_nil, List.forIn_cons, List.forIn_nil]
  refine wpAny_bind (wpAny_bind (wpAny_onRaise ?_))
  cases b with
  | false =>
    refine wpAny_bind (m := Builtin.SmallTypes.nextOf (.ref i1)) (D1.done ⟨g0, g, d, tk0, os⟩ _ _ t1_0 fun y e hy he => ?_)
    replace hy : Heap.ExtBut i1 g0 y := hy
    obtain ⟨oe, hoe, hce⟩ := he
    replace hoe : y.get? e = some oe := hoe
    have hzy : ZipO y z TI TO .ellipsis false := hy _ _ (fun q => S.z1 (q ▸ S.m1)) hz0
    have hez : e ≠ z := fun x => by subst x; rw [hzy] at hoe; cases hoe; simp at hce
    refine wpAny_setField_rec (s := ⟨y, g, d, tk0, os⟩) hzy (by simp) fun y2 _ hv => ?_
    replace hv : Heap.SameBut z y y2 := hv
    exact hE y2 e (fun c o qz qT q1 q2 q3 x => hv.extBut c o qz (hy c o q1 (hs0.extBut c o qz x))) ⟨oe, hv.extBut _ _ hez hoe, hce⟩
  | true =>
    refine zend_strict (s := ⟨g0, g, d, tk0, os⟩) D1 t1_0 fun y hy => ?_
    replace hy : Heap.ExtBut i1 g0 y := hy
    have hzy : ZipO y z TI TO .ellipsis true := hy _ _ (fun q => S.z1 (q ▸ S.m1)) hz0
    have t2_1 : St2 n y := D2.frame _ _ _ t2_0 fun c hc o e => hy c o (fun q => S.s1_2 (q ▸ hc)) e
    have t3_1 : St3 n y := D3.frame _ _ _ t3_0 fun c hc o e => hy c o (fun q => S.s1_3 (q ▸ hc)) e
    refine wpAny_bind (wpAny_setField_rec (s := ⟨y, g, d, tk0, os⟩) hzy (by simp) fun y1 _ hv1 => ?_)
    replace hv1 : Heap.SameBut z y y1 := hv1
    have r2_1 : St2 n y1 := D2.frame _ _ _ t2_1 fun c hc o e => hv1.extBut c o (fun q => S.z2 (q ▸ hc)) e
    have r3_1 : St3 n y1 := D3.frame _ _ _ t3_1 fun c hc o e => hv1.extBut c o (fun q => S.z3 (q ▸ hc)) e
    have k1 : ∀ c o, c ≠ z → c ≠ TO → c ≠ i1 → c ≠ i2 → c ≠ i3 → hp.get? c = some o → y1.get? c = some o := fun c o qz qT q1 q2 q3 e => hv1.extBut c o qz (hy c o q1 (hs0.extBut c o qz e))
    refine wpAny_bind ?_
    refine wpAny_bind ?_
    simp only [List.drop_succ_cons, List.drop_zero, List.zipIdx_cons, List.zipIdx_nil, List.forIn_cons, List.forIn_nil]
    refine wpAny_bind (wpAny_bind (zend_strict (s := ⟨y1, g, d, tk0, os⟩) D2 r2_1 fun y2 hy2 => ?_))
    replace hy2 : Heap.ExtBut i2 y1 y2 := hy2
    have k2 : ∀ c o, c ≠ z → c ≠ TO → c ≠ i1 → c ≠ i2 → c ≠ i3 → hp.get? c = some o → y2.get? c = some o := fun c o qz qT q1 q2 q3 e => hy2 c o q2 (k1 c o qz qT q1 q2 q3 e)
    have r3_2 : St3 n y2 := D3.frame _ _ _ r3_1 fun c hc o e => hy2 c o (fun q => S.s2_3 (q ▸ hc)) e
    refine wpAny_pure ?_
    refine wpAny_bind (wpAny_bind (zend_strict (s := ⟨y2, g, d, tk0, os⟩) D3 r3_2 fun y3 hy3 => ?_))
    replace hy3 : Heap.ExtBut i3 y2 y3 := hy3
    have k3 : ∀ c o, c ≠ z → c ≠ TO → c ≠ i1 → c ≠ i2 → c ≠ i3 → hp.get? c = some o → y3.get? c = some o := fun c o qz qT q1 q2 q3 e => hy3 c o q3 (k2 c o qz qT q1 q2 q3 e)
    refine wpAny_pure ?_
    refine wpAny_pure ?_
    exact wpAny_bind (wpAny_rule (stop_it (s := ⟨y3, g, d, tk0, os⟩) hh fun h2 e kk he => hE h2 e (fun c o qz qT q1 q2 q3 x => kk c o (k3 c o qz qT q1 q2 q3 x)) he))
theorem py_item3 {z TI TO i1 i2 i3 : Addr} {fp1 fp2 fp3 : List Addr} {n1 n2 n3 i : Nat} {P1 P2 P3 : Nat → Value → Prop} {St1 St2 St3 : Nat → Heap → Prop} {a1 a2 a3 : Value} {Q : Option Value → Shared → Prop} (S : Sep3 z TI TO i1 i2 i3 fp1 fp2 fp3) (D1 : Draws prog w A.in1 i1 fp1 n1 P1 St1) (D2 : Draws prog w A.in1 i2 fp2 n2 P2 St2) (D3 : Draws prog w A.in1 i3 fp3 n3 P3 St3)
    (hz : ZipO s.heap z TI TO .none b) (hTI : TupO s.heap TI #[.ref i1, .ref i2, .ref i3]) (hTO : TupO s.heap TO #[a1, a2, a3]) (st1 : St1 i s.heap) (st2 : St2 i s.heap) (st3 : St3 i s.heap) (hi1 : i < n1) (hi2 : i < n2) (hi3 : i < n3)
    (hQ : ∀ x1 x2 x3 h' tk, P1 i x1 → P2 i x2 → P3 i x3 → ZipO h' z TI TO (rawInt s.heap.objs.size) b → TupO h' TO #[x1, x2, x3] → St1 (i + 1) h' → St2 (i + 1) h' → St3 (i + 1) h' → TupO h' s.heap.objs.size #[x1, x2, x3] →
      (∀ c o, c ≠ z → c ≠ TO → c ≠ i1 → c ≠ i2 → c ≠ i3 → s.heap.get? c = some o → h'.get? c = some o) → Q (some (.ref s.heap.objs.size)) { s with heap := h', toks := tk }) : wpAny (model prog w) A (pyNext (.ref z)) Q E s := by
  have hT : s.TypeIs (.ref z) "zip" := ⟨_, hz, rfl⟩
  unfold pyNext
  refine wpAny_bind (wpAny_attempt (wpAny_callSpecial?_slot (name := Str.ofString "__next__") hT F.slot_zip_next (wpAny_call_entry F.slot_zip_next hT F.entry_zip_next ?_ (F.args_zip_next_1 _))))
  exact next_item3 S D1 D2 D3 hz hTI hTO st1 st2 st3 hi1 hi2 hi3 fun x1 x2 x3 h2 tk p1 p2 p3 q1 q2 u1 u2 u3 q3 q4 => wpAny_pure (hQ x1 x2 x3 h2 tk p1 p2 p3 q1 q2 u1 u2 u3 q3 q4)
theorem py_end3 {z TI TO i1 i2 i3 : Addr} {fp1 fp2 fp3 : List Addr} {n : Nat} {P1 P2 P3 : Nat → Value → Prop} {St1 St2 St3 : Nat → Heap → Prop} {a1 a2 a3 : Value} {Q : Option Value → Shared → Prop} (hh : A.handled = none) (S : Sep3 z TI TO i1 i2 i3 fp1 fp2 fp3) (D1 : Draws prog w A.in1 i1 fp1 n P1 St1) (D2 : Draws prog w A.in1 i2 fp2 n P2 St2) (D3 : Draws prog w A.in1 i3 fp3 n P3 St3)
    (hz : ZipO s.heap z TI TO .none b) (hTI : TupO s.heap TI #[.ref i1, .ref i2, .ref i3]) (hTO : TupO s.heap TO #[a1, a2, a3]) (st1 : St1 n s.heap) (st2 : St2 n s.heap) (st3 : St3 n s.heap)
    (hQ : ∀ h', (∀ c o, c ≠ z → c ≠ TO → c ≠ i1 → c ≠ i2 → c ≠ i3 → s.heap.get? c = some o → h'.get? c = some o) → Q none { s with heap := h' }) : wpAny (model prog w) A (pyNext (.ref z)) Q E s := by
  have hT : s.TypeIs (.ref z) "zip" := ⟨_, hz, rfl⟩
  unfold pyNext
  refine wpAny_bind (wpAny_attempt (wpAny_callSpecial?_slot (name := Str.ofString "__next__") hT F.slot_zip_next (wpAny_call_entry F.slot_zip_next hT F.entry_zip_next ?_ (F.args_zip_next_1 _))))
  refine next_end3 (A := A.in1) hh S D1 D2 D3 hz hTI hTO st1 st2 st3 fun h2 e kk he => ?_
  obtain ⟨o, ho, hc⟩ := he
  exact wpAny_bind (wpAny_isInstance (T := "StopIteration") (b := true) ⟨o, ho, hc⟩ isSubtype_stop (wpAny_pure (hQ _ kk)))
theorem typeCall_strict3 (v1 v2 v3 x : Value) : checkTypeCall "zip" ⟨[v1, v2, v3], [(Str.ofString "strict", x)]⟩ = pure () := by kernel_rfl
theorem newCall_strict3 (v1 v2 v3 x : Value) : checkBuiltinCall "zip.__new__" ⟨[.type "zip", v1, v2, v3], [(Str.ofString "strict", x)]⟩ = pure () := by kernel_rfl
theorem initArgs_strict3 (obj v1 v2 v3 x : Value) : argsOk "object.__init__" ⟨[obj, v1, v2, v3], [(Str.ofString "strict", x)]⟩ := by unfold argsOk; kernel_rfl
abbrev sT3 (h : Heap) (o1 o2 o3 : Obj) : Heap := ((((h.push o1).push o2).push o3).push { cls := .type "tuple", data := .seq #[.ref h.objs.size, .ref (h.push o1).objs.size, .ref ((h.push o1).push o2).objs.size] })
abbrev sO3 (h : Heap) (o1 o2 o3 : Obj) : Heap := (sT3 h o1 o2 o3).push { cls := .type "tuple", data := .seq #[.none, .none, .none] }
abbrev sZ3 (h : Heap) (o1 o2 o3 : Obj) : Heap := (sO3 h o1 o2 o3).push { cls := .type "zip", data := .fields #[.none, .bool false, .bool true, .ref (((h.push o1).push o2).push o3).objs.size, .ref (sT3 h o1 o2 o3).objs.size] }
theorem meets_strict3 {v1 v2 v3 : Value} {o1 o2 o3 : Obj} {G1 G2 G3 : Heap → Prop} (B1 : Begins v1 o1 G1) (B2 : Begins v2 o2 G2) (B3 : Begins v3 o3 G3) :
    Meets (Builtin.«zip.__new__» ⟨[.type "zip", v1, v2, v3], [(Str.ofString "strict", .bool true)]⟩) (fun _ R s => (G1 s.heap ∧ G2 s.heap ∧ G3 s.heap) ∧ R (.ok (.ret (.ref (sO3 s.heap o1 o2 o3).objs.size))) { s with heap := (sZ3 s.heap o1 o2 o3) }) :=
  .of_wp fun prog w A R s h => by
    obtain ⟨hp, g, d, tk, os⟩ := s
    obtain ⟨⟨h1, h2, h3⟩, h⟩ := h
    have hsub := sub_zip
    have e1 : (Str.ofString "strict" != ("strict" : Str)) = false := by decide +kernel
    have w1 : ∀ {A' : Around} {E : Value → Shared → Prop} {Q : Value → Shared → Prop}, Q (.ref hp.objs.size) ⟨(hp.push o1), g, d, tk, os⟩ → wpAny (model prog w) A' (pyIter v1) Q E ⟨hp, g, d, tk, os⟩ := fun q => B1.iter prog w _ _ ⟨hp, g, d, tk, os⟩ _ (B1.keeps _ _ h1 fun c u e => e) q
    have w2 : ∀ {A' : Around} {E : Value → Shared → Prop} {Q : Value → Shared → Prop}, Q (.ref (hp.push o1).objs.size) ⟨((hp.push o1).push o2), g, d, tk, os⟩ → wpAny (model prog w) A' (pyIter v2) Q E ⟨(hp.push o1), g, d, tk, os⟩ := fun q => B2.iter prog w _ _ ⟨(hp.push o1), g, d, tk, os⟩ _ (B2.keeps _ _ h2 fun c u e => (Heap.get?_push_of_some _ e)) q
    have w3 : ∀ {A' : Around} {E : Value → Shared → Prop} {Q : Value → Shared → Prop}, Q (.ref ((hp.push o1).push o2).objs.size) ⟨(((hp.push o1).push o2).push o3), g, d, tk, os⟩ → wpAny (model prog w) A' (pyIter v3) Q E ⟨((hp.push o1).push o2), g, d, tk, os⟩ := fun q => B3.iter prog w _ _ ⟨((hp.push o1).push o2), g, d, tk, os⟩ _ (B3.keeps _ _ h3 fun c u e => (Heap.get?_push_of_some _ (Heap.get?_push_of_some _ e))) q
    wp_walk using w1, w2, w3
    exact ⟨_, rfl, h⟩
/-- zip(.., strict=True) of 3: its new cells -/
theorem begins_strict3 {v1 v2 v3 : Value} {o1 o2 o3 : Obj} {G1 G2 G3 : Heap → Prop} {Q : Value → Shared → Prop} (B1 : Begins v1 o1 G1) (B2 : Begins v2 o2 G2) (B3 : Begins v3 o3 G3) (h1 : G1 s.heap) (h2 : G2 s.heap) (h3 : G3 s.heap)
    (h : ∀ h', ZipO h' (s.heap.objs.size + 5) (s.heap.objs.size + 3) (s.heap.objs.size + 4) .none true → TupO h' (s.heap.objs.size + 3) #[.ref s.heap.objs.size, .ref (s.heap.objs.size + 1), .ref (s.heap.objs.size + 2)] → TupO h' (s.heap.objs.size + 4) #[.none, .none, .none] → h'.get? s.heap.objs.size = some o1 → h'.get? (s.heap.objs.size + 1) = some o2 → h'.get? (s.heap.objs.size + 2) = some o3 → (∀ c o, s.heap.get? c = some o → h'.get? c = some o) → Q (.ref (s.heap.objs.size + 5)) { s with heap := h' }) :
    wpAny (model prog w) A (call (.type "zip") [v1, v2, v3] [(Str.ofString "strict", .bool true)]) Q E s := by
  refine callType_newKw F.called_zip (by decide) (typeCall_strict3 _ _ _ _) (newCall_strict3 _ _ _ _) (fun obj => initArgs_strict3 obj _ _ _ _) F.entry_zip_new (meets_strict3 B1 B2 B3) ⟨⟨h1, h2, h3⟩, ?_⟩
  have z1 : (s.heap.push o1).objs.size = s.heap.objs.size + 1 := by rw [Heap.size_push]
  have z2 : ((s.heap.push o1).push o2).objs.size = s.heap.objs.size + 2 := by rw [Heap.size_push, z1]
  have z3 : (((s.heap.push o1).push o2).push o3).objs.size = s.heap.objs.size + 3 := by rw [Heap.size_push, z2]
  have z4 : (sT3 s.heap o1 o2 o3).objs.size = s.heap.objs.size + 4 := by rw [Heap.size_push, z3]
  have z5 : (sO3 s.heap o1 o2 o3).objs.size = s.heap.objs.size + 5 := by rw [Heap.size_push, z4]
  have z6 : (sZ3 s.heap o1 o2 o3).objs.size = s.heap.objs.size + 6 := by rw [Heap.size_push, z5]
  have q0 : (sZ3 s.heap o1 o2 o3).get? s.heap.objs.size = some o1 := (Heap.get?_push_of_some _ (Heap.get?_push_of_some _ (Heap.get?_push_of_some _ (Heap.get?_push_of_some _ (Heap.get?_push_of_some _ (Heap.get?_push_size _ B1.free))))))
  have q1 : (sZ3 s.heap o1 o2 o3).get? (s.heap.push o1).objs.size = some o2 := (Heap.get?_push_of_some _ (Heap.get?_push_of_some _ (Heap.get?_push_of_some _ (Heap.get?_push_of_some _ (Heap.get?_push_size _ B2.free)))))
  rw [z1] at q1
  have q2 : (sZ3 s.heap o1 o2 o3).get? ((s.heap.push o1).push o2).objs.size = some o3 := (Heap.get?_push_of_some _ (Heap.get?_push_of_some _ (Heap.get?_push_of_some _ (Heap.get?_push_size _ B3.free))))
  rw [z2] at q2
  have q3 : (sZ3 s.heap o1 o2 o3).get? (((s.heap.push o1).push o2).push o3).objs.size = some ({ cls := .type "tuple", data := .seq #[.ref s.heap.objs.size, .ref (s.heap.push o1).objs.size, .ref ((s.heap.push o1).push o2).objs.size] } : Obj) := (Heap.get?_push_of_some _ (Heap.get?_push_of_some _ (Heap.get?_push_size _ rfl)))
  rw [z3] at q3
  have q4 : (sZ3 s.heap o1 o2 o3).get? (sT3 s.heap o1 o2 o3).objs.size = some ({ cls := .type "tuple", data := .seq #[.none, .none, .none] } : Obj) := (Heap.get?_push_of_some _ (Heap.get?_push_size _ rfl))
  rw [z4] at q4
  have q5 : (sZ3 s.heap o1 o2 o3).get? (sO3 s.heap o1 o2 o3).objs.size = some ({ cls := .type "zip", data := .fields #[.none, .bool false, .bool true, .ref (((s.heap.push o1).push o2).push o3).objs.size, .ref (sT3 s.heap o1 o2 o3).objs.size] } : Obj) := (Heap.get?_push_size _ rfl)
  rw [z5] at q5
  rw [z2, z1] at q3
  rw [z4, z3] at q5
  show _ ∧ _
  rw [z5]
  exact ⟨⟨_, q5, rfl⟩, h _ q5 q3 q4 q0 q1 q2 fun c o e => (Heap.get?_push_of_some _ (Heap.get?_push_of_some _ (Heap.get?_push_of_some _ (Heap.get?_push_of_some _ (Heap.get?_push_of_some _ (Heap.get?_push_of_some _ e))))))⟩
end
end CZ

namespace CZ
open PySem PySem.Spec PyProof.Rows L2
/-- a list (false) or a tuple (true) that is read -/
def SqK (K : PySem.W.Frag) (H : Hp) (p : Bool × Addr) (xs : List V) : Prop := if p.1 = true then SqT K H p.2 xs else SqL K H p.2 xs
def SqIt (h : Heap) (it : Addr) (p : Bool × Addr) (i : Nat) : Prop := if p.1 = true then h.IsTupleIter it p.2 i else h.IsListIter it p.2 i
def SeqIs (h : Heap) (p : Bool × Addr) (its : List Value) : Prop := if p.1 = true then h.IsTuple p.2 its.toArray else h.IsList p.2 its.toArray
/-- the iterator's object as it begins -/
def itO (p : Bool × Addr) : Obj := if p.1 = true then { cls := .type "tuple_iterator", data := .fields #[.ref p.2, .int 0 0] } else { cls := .type "list_iterator", data := .fields #[.ref p.2, .int 0 0] }
theorem SqIt.at {h h' : Heap} {it : Addr} {p : Bool × Addr} {i : Nat} (x : SqIt h it p i) (k : ∀ o, h.get? it = some o → h'.get? it = some o) : SqIt h' it p i := by
  obtain ⟨b, a⟩ := p
  cases b
  · exact Heap.IsListIter.at (show h.IsListIter it a i from x) k
  · exact Heap.IsTupleIter.at (show h.IsTupleIter it a i from x) k
theorem SqIt.obj {h : Heap} {it : Addr} {p : Bool × Addr} {i : Nat} (x : SqIt h it p i) : ∃ o, h.get? it = some o ∧ ∀ v, o.data ≠ .cell v := by
  obtain ⟨b, a⟩ := p
  cases b
  · obtain ⟨o, e, _, d⟩ := (show h.IsListIter it a i from x)
    exact ⟨o, e, fun v q => by rw [d] at q; cases q⟩
  · obtain ⟨o, e, _, d⟩ := (show h.IsTupleIter it a i from x)
    exact ⟨o, e, fun v q => by rw [d] at q; cases q⟩
theorem SqIt.begin {h : Heap} {it : Addr} {p : Bool × Addr} (e : h.get? it = some (itO p)) : SqIt h it p 0 := by
  obtain ⟨b, a⟩ := p
  cases b
  · exact ⟨_, e, rfl, rfl⟩
  · exact ⟨_, e, rfl, rfl⟩
theorem begins_of (p : Bool × Addr) (its : List Value) : Begins (.ref p.2) (itO p) (fun h => SeqIs h p its) := by
  obtain ⟨b, a⟩ := p
  cases b
  · exact begins_list a its.toArray
  · exact begins_tuple a its.toArray
theorem draws_of {prog : Program} {w : World} {A : Around} (hh : A.handled = none) (it : Addr) (p : Bool × Addr) (ne : p.2 ≠ it) (its : List Value) :
    Draws prog w A it [it, p.2] its.toArray.size (fun i v => its.toArray[i]? = some v) (fun i h => SqIt h it p i ∧ SeqIs h p its) := by
  obtain ⟨b, a⟩ := p
  cases b
  · exact Draws.list hh it a ne its.toArray
  · exact Draws.tuple hh it a ne its.toArray
section
variable {X : Cx} {pins : List (Addr × Obj)} {σ : L2.St} {H : Hp} {s : Shared} {p : Bool × Addr} {xs ys : List V}
theorem sq_seq (I : Inv X pins σ H s) (h : SqK X.K H p xs) : ∃ its : List Value, Vals xs its ∧ SeqIs s.heap p its ∧ p.2 < s.heap.objs.size := by
  obtain ⟨b, a⟩ := p
  cases b
  · obtain ⟨its, rv, q, _⟩ := I.list (show SqL X.K H a xs from h)
    exact ⟨its, rv, q.isList, q.lt⟩
  · obtain ⟨its, rv, q, _⟩ := I.tuple (show SqT X.K H a xs from h)
    obtain ⟨o, ho, _⟩ := id q
    exact ⟨its, rv, q, Heap.lt_size ho⟩
theorem sq_inj (I : Inv X pins σ H s) (h : SqK X.K H p xs) (h2 : SqK X.K H p ys) : xs = ys := by
  obtain ⟨b, a⟩ := p
  cases b
  · exact I.list_inj (show SqL X.K H a xs from h) h2
  · exact I.tuple_inj (show SqT X.K H a xs from h) h2
end
/-- what a zip of lists and tuples of one length gives -/
def ItZ (K : PySem.W.Frag) (l : List (Bool × Addr)) : It :=
  ⟨fun i H => ∃ vs : List V, Paired (fun p v => ∃ xs, SqK K H p xs ∧ xs[i]? = some v) l vs,
    fun i H v H2 => ∃ (T : Addr) (vs : List V), v = .ref T ∧ H T = none ∧ H2 = upd H T (.tup vs) ∧ Paired (fun p v => ∀ xs, SqK K H p xs → xs[i]? = some v) l vs,
    fun i H => ∀ p ∈ l, ∃ xs, SqK K H p xs ∧ xs.length = i⟩
def YRow (xss : List (List V)) : Nat → Hp → V → Hp → Prop := fun i H v H2 => ∃ (T : Addr) (vs : List V), v = .ref T ∧ H T = none ∧ H2 = upd H T (.tup vs) ∧ Paired (fun (xs : List V) v => xs[i]? = some v) xss vs
theorem pair_go {K : PySem.W.Frag} {H : Hp} {i : Nat} : ∀ {l : List (Bool × Addr)} {xss : List (List V)}, Paired (fun p xs => SqK K H p xs) l xss → (∀ xs ∈ xss, i < xs.length) → ∃ vs, Paired (fun p v => ∃ xs, SqK K H p xs ∧ xs[i]? = some v) l vs
  | _, _, .nil, _ => ⟨[], .nil⟩
  | _, _, .cons (b := xs) r t, h => by
    obtain ⟨vs, q⟩ := pair_go t fun ys hy => h ys (List.mem_cons_of_mem _ hy)
    have hi := h xs List.mem_cons_self
    exact ⟨xs[i] :: vs, .cons ⟨xs, r, List.getElem?_eq_getElem hi⟩ q⟩
theorem pair_row {K : PySem.W.Frag} {H : Hp} {i : Nat} : ∀ {l : List (Bool × Addr)} {xss : List (List V)} {vs : List V}, Paired (fun p xs => SqK K H p xs) l xss → Paired (fun p v => ∀ xs, SqK K H p xs → xs[i]? = some v) l vs → Paired (fun (xs : List V) v => xs[i]? = some v) xss vs
  | _, _, _, .nil, .nil => .nil
  | _, _, _, .cons r t, .cons q u => .cons (q _ r) (pair_row t u)
theorem pair_stop {K : PySem.W.Frag} {H : Hp} {n : Nat} : ∀ {l : List (Bool × Addr)} {xss : List (List V)}, Paired (fun p xs => SqK K H p xs) l xss → (∀ xs ∈ xss, xs.length = n) → ∀ p ∈ l, ∃ xs, SqK K H p xs ∧ xs.length = n
  | _, _, .nil, _, _, hp => nomatch hp
  | _, _, .cons r t, h, p, hp => by
    rcases List.mem_cons.mp hp with e | hp
    · rw [e]
      exact ⟨_, r, h _ List.mem_cons_self⟩
    · exact pair_stop t (fun ys hy => h ys (List.mem_cons_of_mem _ hy)) p hp
theorem walk_rows {K : PySem.W.Frag} {l : List (Bool × Addr)} {xss : List (List V)} {n : Nat} (hn : ∀ xs ∈ xss, xs.length = n) : Walk (ItZ K l) n (fun H => Paired (fun p xs => SqK K H p xs) l xss) (YRow xss) :=
  ⟨fun i H hi q => pair_go q fun xs hx => by rw [hn xs hx]; exact hi, fun H q => pair_stop q hn, fun i H x H2 _ q y => by
    obtain ⟨T, vs, h1, h2, h3, h4⟩ := y
    exact ⟨T, vs, h1, h2, h3, pair_row q h4⟩⟩
/-- the reading of zip(..): which are tuples is told by the flags -/
def iZ (K : PySem.W.Frag) (fl : List Bool) (ta : TA) : TI := fun σ H R => ta σ H fun vs H1 => ∃ l : List Addr, vs = l.map V.ref ∧ l.length = fl.length ∧ (∀ p ∈ fl.zip l, ∃ xs, SqK K H1 p xs) ∧ R (ItZ K (fl.zip l)) H1
theorem nin_new {M a : Nat} (j k : Nat) (h : a < M) (hjk : j ≠ k) : M + j ∉ [M + k, a] := by
  simp only [List.mem_cons, List.mem_nil_iff, or_false, not_or]
  omega
theorem looks_ty {M : Model} {h : Heap} (T : String) (_ : True) : ∃ k, (k = Keeper.frame ∨ k = Keeper.machine ∨ k = Keeper.boundFrame) ∧ PySem.W.Looks M h (keeperOf (.type T)) k := ⟨_, .inr (.inl rfl), PySem.W.Looks.of_pure rfl⟩
end CZ

namespace CZ
open PySem PySem.Spec PyProof.Rows L2
theorem turn_z2 {P : Program} {w : World} {K : PySem.W.Frag} {elts : List Expr} {kk : Nat} {tpos : Pos} {z TI TO i1 i2 : Addr} {p1 p2 : Bool × Addr} {b : Bool} (S : Sep2 z TI TO i1 i2 [i1, p1.2] [i2, p2.2]) (ne1 : p1.2 ≠ i1) (ne2 : p2.2 ≠ i2) :
    Turn P w K (.Tuple elts kk tpos) (ItZ K [p1, p2]) [z, TI, TO, i1, i2] z (fun i h => ZipO h z TI TO .none b ∧ TupO h TI #[.ref i1, .ref i2] ∧ (∃ a1 a2, TupO h TO #[a1, a2]) ∧ SqIt h i1 p1 i ∧ SqIt h i2 p2 i) where
  mem := by simp
  obj := fun i h st c hc => by
    obtain ⟨hz, hTI, ⟨a1, a2, hTO⟩, h1, h2⟩ := st
    have e : c = z ∨ c = TI ∨ c = TO ∨ c = i1 ∨ c = i2 := by simpa using hc
    rcases e with q | q | q | q | q
    · rw [q]; exact ⟨_, hz, fun v q => nomatch q⟩
    · rw [q]; exact ⟨_, hTI, fun v q => nomatch q⟩
    · rw [q]; exact ⟨_, hTO, fun v q => nomatch q⟩
    · rw [q]; exact h1.obj
    · rw [q]; exact h2.obj
  keep := fun i h h2 st k => by
    obtain ⟨hz, hTI, ⟨a1, a2, hTO⟩, h1, h2⟩ := st
    exact ⟨k z (by simp) _ hz, k TI (by simp) _ hTI, ⟨a1, a2, k TO (by simp) _ hTO⟩, h1.at fun o q => k i1 (by simp) o q, h2.at fun o q => k i2 (by simp) o q⟩
  item := by
    intro X hP hw hK hc i pins s σ H E I hf st hg
    subst hP hw hK
    obtain ⟨hz, hTI, ⟨a1, a2, hTO⟩, h1, h2⟩ := st
    obtain ⟨vs, hv⟩ := hg
    cases hv with
    | cons r1 hv1 =>
      rename_i v1 ws1
      obtain ⟨xs1, hq1, hx1⟩ := r1
      obtain ⟨its1, rv1, q1, _⟩ := sq_seq I hq1
      obtain ⟨u1, hu1, ru1⟩ := rv1.get hx1
      have g1 : its1.toArray[i]? = some u1 := by simpa using hu1
      have l1 : i < its1.toArray.size := by have := (List.getElem?_eq_some_iff.mp hu1).1; simpa using this
      cases hv1 with
      | cons r2 hv2 =>
        rename_i v2 ws2
        obtain ⟨xs2, hq2, hx2⟩ := r2
        obtain ⟨its2, rv2, q2, _⟩ := sq_seq I hq2
        obtain ⟨u2, hu2, ru2⟩ := rv2.get hx2
        have g2 : its2.toArray[i]? = some u2 := by simpa using hu2
        have l2 : i < its2.toArray.size := by have := (List.getElem?_eq_some_iff.mp hu2).1; simpa using this
        cases hv2
        have hzl : z < s.heap.objs.size := Heap.lt_size hz
        refine py_item2 S (draws_of (A := X.A.in1) (I.ok.hd hc) i1 p1 ne1 its1) (draws_of (A := X.A.in1) (I.ok.hd hc) i2 p2 ne2 its2) hz hTI hTO ⟨h1, q1⟩ ⟨h2, q2⟩ l1 l2 fun x1 x2 hA tk y1 y2 z2 TO2 n1 n2 hT hk => ?_
        obtain rfl : u1 = x1 := Option.some.inj (g1.symm.trans y1)
        obtain rfl : u2 = x2 := Option.some.inj (g2.symm.trans y2)
        refine ⟨_, rfl, go_zip (s := { s with heap := hA, toks := tk }) z2 fun hB z3 sb => ?_⟩
        replace sb : Heap.SameBut z hA hB := sb
        have hT2 : hB.get? s.heap.objs.size = some { cls := .type "tuple", data := .seq #[u1, u2] } := (sb.2 _ (Nat.ne_of_gt hzl)).trans hT
        have new : ObjOk X.prog X.w (upd H s.heap.objs.size (.tup [v1, v2])) hB s.heap.objs.size (.tup [v1, v2]) := ⟨by show 2 ≤ sizeLine; decide, [u1, u2], (.cons ru1 (.cons ru2 .nil)), ⟨_, hT2, rfl, _, rfl⟩⟩
        have I1 : Inv X pins σ (upd H s.heap.objs.size (.tup [v1, v2])) { s with heap := hB, toks := tk } := I.turnedNew (t' := tk) (ch := [z, TI, TO, i1, i2]) (fun c o hb q => (sb.2 c (fun q => hb (by simp [q]))).trans (hk c o (fun q => hb (by simp [q])) (fun q => hb (by simp [q])) (fun q => hb (by simp [q])) (fun q => hb (by simp [q])) q)) hf (Nat.le_refl _) new
        refine ⟨.ref s.heap.objs.size, _, I1, rfl, ⟨_, _, rfl, I.hok.fresh (Nat.le_refl _), rfl, (.cons (fun l hl => by rw [sq_inj I hl hq1]; exact hx1) (.cons (fun l hl => by rw [sq_inj I hl hq2]; exact hx2) .nil))⟩, ⟨z3, (sb.2 _ S.zTI.symm).trans (hk _ _ S.zTI.symm S.TOTI.symm S.I1 S.I2 hTI), ⟨u1, u2, (sb.2 _ S.zTO.symm).trans TO2⟩, (n1.1.at fun o q => (sb.2 _ (fun q => S.z1 (by rw [← q]; exact S.m1))).trans q), (n2.1.at fun o q => (sb.2 _ (fun q => S.z2 (by rw [← q]; exact S.m2))).trans q)⟩, fun c hcm => ?_⟩
        have hlt : c < s.heap.objs.size := by
          have e : c = z ∨ c = TI ∨ c = TO ∨ c = i1 ∨ c = i2 := by simpa using hcm
          rcases e with q | q | q | q | q
          · rw [q]; exact hzl
          · rw [q]; exact Heap.lt_size hTI
          · rw [q]; exact Heap.lt_size hTO
          · rw [q]; obtain ⟨_, e1, _⟩ := h1.obj; exact Heap.lt_size e1
          · rw [q]; obtain ⟨_, e1, _⟩ := h2.obj; exact Heap.lt_size e1
        rw [upd_ne (Nat.ne_of_lt hlt)]
        exact (hf c hcm).1
  done := by
    intro X hP hw hK hc i pins s σ H E I hf st hg
    subst hP hw hK
    obtain ⟨hz, hTI, ⟨a1, a2, hTO⟩, h1, h2⟩ := st
    obtain ⟨xs1, hq1, hx1⟩ := hg p1 (by simp)
    obtain ⟨its1, rv1, q1, _⟩ := sq_seq I hq1
    have l1 : its1.toArray.size = i := by have := rv1.length; simp; omega
    have D1 := draws_of (prog := X.prog) (w := X.w) (A := X.A.in1) (I.ok.hd hc) i1 p1 ne1 its1
    rw [l1] at D1
    obtain ⟨xs2, hq2, hx2⟩ := hg p2 (by simp)
    obtain ⟨its2, rv2, q2, _⟩ := sq_seq I hq2
    have l2 : its2.toArray.size = i := by have := rv2.length; simp; omega
    have D2 := draws_of (prog := X.prog) (w := X.w) (A := X.A.in1) (I.ok.hd hc) i2 p2 ne2 its2
    rw [l2] at D2
    exact py_end2 (I.ok.hd hc) S D1 D2 hz hTI hTO ⟨h1, q1⟩ ⟨h2, q2⟩ fun h2 hk => ⟨rfl, I.turnedL (t' := s.toks) (ch := [z, TI, TO, i1, i2]) (fun c o hb q => hk c o (fun q => hb (by simp [q])) (fun q => hb (by simp [q])) (fun q => hb (by simp [q])) (fun q => hb (by simp [q])) q) hf⟩
  self := fun A i s Q E st h => iter_zip st.1 h
theorem sep_new2 {M : Nat} {p1 p2 : Bool × Addr} (h1 : p1.2 < M) (h2 : p2.2 < M) : Sep2 (M + 4) (M + 2) (M + 3) M (M + 1) [M, p1.2] [M + 1, p2.2] where
  zTO := by show (M + 4 : Nat) ≠ M + 3; omega
  zTI := by show (M + 4 : Nat) ≠ M + 2; omega
  TOTI := by show (M + 3 : Nat) ≠ M + 2; omega
  m1 := by simp
  z1 := nin_new (a := p1.2) 4 0 h1 (by decide)
  T1 := nin_new (a := p1.2) 3 0 h1 (by decide)
  I1 := by show (M + 2 : Nat) ≠ M; omega
  s2_1 := nin_new (a := p1.2) 1 0 h1 (by decide)
  m2 := by simp
  z2 := nin_new (a := p2.2) 4 1 h2 (by decide)
  T2 := nin_new (a := p2.2) 3 1 h2 (by decide)
  I2 := by show (M + 2 : Nat) ≠ M + 1; omega
  s1_2 := nin_new (a := p2.2) 0 1 h2 (by decide)
theorem pi_z2s {X : Cx} {e1 e2 : Expr} {ta : TA} {p pos tpos : Pos} {elts : List Expr} {kk : Nat} {jj : Nat} {kp kp2 : Pos} {fl : List Bool} (hfl : fl.length = 2) (hg : Gl X "zip") (hm : X.mg "zip" = none) (ha : PA X [e1, e2] ta)
    (hs : starEach [e1, e2] X.env = (false, eval e1 X.env) :: starEach [e2] X.env := by rfl) (hpl : (backTo pos (starEach [e2] X.env)).any (·.1) = false := by rfl) :
    PI X (.Tuple elts kk tpos) (.Call (.Name "zip" p) [e1, e2] [⟨some "strict", .Constant (.bool true) jj kp, kp2⟩] pos) (iZ X.K fl ta) := by
  refine ⟨fun pins s σ H R I h => ?_⟩
  refine wpAny_Call_Name_kw (ld_blt I hg hm PyProof.Rows.boot_zip ?_)
  refine PySem.W.callWith_of (P := fun _ => True) ?_ (fun h _ => looks_ty "zip" True.intro) ?_
  · show ((backTo pos (starEach _ X.env)).any (·.1) || false) = false
    rw [hs, Bool.or_false]
    exact hpl
  have he : backTo pos (starEach [e1, e2] X.env) = (false, eval e1 X.env) :: backTo pos (starEach [e2] X.env) := by rw [hs]; rfl
  rw [he]
  refine PyProof.Rows.evalArgs_kwB rfl ?_
  rw [← he]
  refine thn (ha.run pos pins s σ H _ I h) fun us s0 ⟨vs, H1, I0, r1, q1⟩ => ?_
  refine PyProof.Rows.kws_cons (Constant_bool (PyProof.Rows.kws_nil ⟨True.intro, ?_⟩))
  have I1 := I0
  obtain ⟨l, ev, el, hl, q1⟩ := q1
  subst ev
  obtain ⟨b1, b2, rfl⟩ : ∃ b1 b2 : Bool, fl = [b1, b2] := match fl, hfl with | [_, _], _ => ⟨_, _, rfl⟩
  obtain ⟨c1, c2, rfl⟩ : ∃ c1 c2 : Addr, l = [c1, c2] := match l, el with | [_, _], _ => ⟨_, _, rfl⟩
  cases r1 with
  | cons r_1 rr1 =>
    cases r_1
    cases rr1 with
    | cons r_2 rr2 =>
      cases r_2
      cases rr2
      obtain ⟨xs1, hq1⟩ := hl (b1, c1) (by simp)
      obtain ⟨its1, rv1, g1, lt1⟩ := sq_seq I1 hq1
      obtain ⟨xs2, hq2⟩ := hl (b2, c2) (by simp)
      obtain ⟨its2, rv2, g2, lt2⟩ := sq_seq I1 hq2
      have frs : ∀ c, c ∈ [s0.heap.objs.size + 4, s0.heap.objs.size + 2, s0.heap.objs.size + 3, s0.heap.objs.size, s0.heap.objs.size + 1] → FpOk X pins H1 c := fun c hcm => by
        have e : c = s0.heap.objs.size + 4 ∨ c = s0.heap.objs.size + 2 ∨ c = s0.heap.objs.size + 3 ∨ c = s0.heap.objs.size ∨ c = s0.heap.objs.size + 1 := by simpa using hcm
        have hle : s0.heap.objs.size ≤ c := by
          rcases e with q | q | q | q | q
          · rw [q]; exact Nat.le_add_right _ _
          · rw [q]; exact Nat.le_add_right _ _
          · rw [q]; exact Nat.le_add_right _ _
          · rw [q]; exact Nat.le_refl _
          · rw [q]; exact Nat.le_add_right _ _
        exact I1.fpOk hle (I1.hok.fresh hle)
      refine begins_strict2 (begins_of (b1, c1) its1) (begins_of (b2, c2) its2) g1 g2 fun hA hz hTI hTO y1 y2 kk => iter_zip hz ?_
      have I2 : Inv X pins σ H1 { s0 with heap := hA } := I1.kept (t' := s0.toks) kk
      exact ⟨_, [s0.heap.objs.size + 4, s0.heap.objs.size + 2, s0.heap.objs.size + 3, s0.heap.objs.size, s0.heap.objs.size + 1], _, _, H1, rfl, I2, turn_z2 (sep_new2 lt1 lt2) (Nat.ne_of_lt lt1) (Nat.ne_of_lt (Nat.lt_of_lt_of_le lt2 (Nat.le_add_right _ 1))), ⟨hz, hTI, ⟨_, _, hTO⟩, SqIt.begin y1, SqIt.begin y2⟩, frs, q1⟩
theorem pi_z2 {X : Cx} {e1 e2 : Expr} {ta : TA} {p pos tpos : Pos} {elts : List Expr} {kk : Nat} {fl : List Bool} (hfl : fl.length = 2) (hg : Gl X "zip") (hm : X.mg "zip" = none) (ha : PA X [e1, e2] ta)
    (hs : starEach [e1, e2] X.env = (false, eval e1 X.env) :: starEach [e2] X.env := by rfl) (hpl : (backTo pos (starEach [e2] X.env)).any (·.1) = false := by rfl) :
    PI X (.Tuple elts kk tpos) (.Call (.Name "zip" p) [e1, e2] [] pos) (iZ X.K fl ta) := by
  refine ⟨fun pins s σ H R I h => ?_⟩
  refine Call_ (ld_blt I hg hm PyProof.Rows.boot_zip (PyProof.Rows.callWith_type1 (thn (ha.run pos pins s σ H _ I h) fun us s0 ⟨vs, H1, I1, r1, q1⟩ => ?_) hs hpl))
  obtain ⟨l, ev, el, hl, q1⟩ := q1
  subst ev
  obtain ⟨b1, b2, rfl⟩ : ∃ b1 b2 : Bool, fl = [b1, b2] := match fl, hfl with | [_, _], _ => ⟨_, _, rfl⟩
  obtain ⟨c1, c2, rfl⟩ : ∃ c1 c2 : Addr, l = [c1, c2] := match l, el with | [_, _], _ => ⟨_, _, rfl⟩
  cases r1 with
  | cons r_1 rr1 =>
    cases r_1
    cases rr1 with
    | cons r_2 rr2 =>
      cases r_2
      cases rr2
      obtain ⟨xs1, hq1⟩ := hl (b1, c1) (by simp)
      obtain ⟨its1, rv1, g1, lt1⟩ := sq_seq I1 hq1
      obtain ⟨xs2, hq2⟩ := hl (b2, c2) (by simp)
      obtain ⟨its2, rv2, g2, lt2⟩ := sq_seq I1 hq2
      have frs : ∀ c, c ∈ [s0.heap.objs.size + 4, s0.heap.objs.size + 2, s0.heap.objs.size + 3, s0.heap.objs.size, s0.heap.objs.size + 1] → FpOk X pins H1 c := fun c hcm => by
        have e : c = s0.heap.objs.size + 4 ∨ c = s0.heap.objs.size + 2 ∨ c = s0.heap.objs.size + 3 ∨ c = s0.heap.objs.size ∨ c = s0.heap.objs.size + 1 := by simpa using hcm
        have hle : s0.heap.objs.size ≤ c := by
          rcases e with q | q | q | q | q
          · rw [q]; exact Nat.le_add_right _ _
          · rw [q]; exact Nat.le_add_right _ _
          · rw [q]; exact Nat.le_add_right _ _
          · rw [q]; exact Nat.le_refl _
          · rw [q]; exact Nat.le_add_right _ _
        exact I1.fpOk hle (I1.hok.fresh hle)
      refine zip_begins2 (begins_of (b1, c1) its1) (begins_of (b2, c2) its2) g1 g2 fun hA hz hTI hTO y1 y2 _ kk => iter_zip (b := false) hz ?_
      have I2 : Inv X pins σ H1 { s0 with heap := hA } := I1.kept (t' := s0.toks) kk
      exact ⟨_, [s0.heap.objs.size + 4, s0.heap.objs.size + 2, s0.heap.objs.size + 3, s0.heap.objs.size, s0.heap.objs.size + 1], _, _, H1, rfl, I2, turn_z2 (sep_new2 lt1 lt2) (Nat.ne_of_lt lt1) (Nat.ne_of_lt (Nat.lt_of_lt_of_le lt2 (Nat.le_add_right _ 1))), ⟨hz, hTI, ⟨_, _, hTO⟩, SqIt.begin y1, SqIt.begin y2⟩, frs, q1⟩
theorem turn_z3 {P : Program} {w : World} {K : PySem.W.Frag} {elts : List Expr} {kk : Nat} {tpos : Pos} {z TI TO i1 i2 i3 : Addr} {p1 p2 p3 : Bool × Addr} {b : Bool} (S : Sep3 z TI TO i1 i2 i3 [i1, p1.2] [i2, p2.2] [i3, p3.2]) (ne1 : p1.2 ≠ i1) (ne2 : p2.2 ≠ i2) (ne3 : p3.2 ≠ i3) :
    Turn P w K (.Tuple elts kk tpos) (ItZ K [p1, p2, p3]) [z, TI, TO, i1, i2, i3] z (fun i h => ZipO h z TI TO .none b ∧ TupO h TI #[.ref i1, .ref i2, .ref i3] ∧ (∃ a1 a2 a3, TupO h TO #[a1, a2, a3]) ∧ SqIt h i1 p1 i ∧ SqIt h i2 p2 i ∧ SqIt h i3 p3 i) where
  mem := by simp
  obj := fun i h st c hc => by
    obtain ⟨hz, hTI, ⟨a1, a2, a3, hTO⟩, h1, h2, h3⟩ := st
    have e : c = z ∨ c = TI ∨ c = TO ∨ c = i1 ∨ c = i2 ∨ c = i3 := by simpa using hc
    rcases e with q | q | q | q | q | q
    · rw [q]; exact ⟨_, hz, fun v q => nomatch q⟩
    · rw [q]; exact ⟨_, hTI, fun v q => nomatch q⟩
    · rw [q]; exact ⟨_, hTO, fun v q => nomatch q⟩
    · rw [q]; exact h1.obj
    · rw [q]; exact h2.obj
    · rw [q]; exact h3.obj
  keep := fun i h h2 st k => by
    obtain ⟨hz, hTI, ⟨a1, a2, a3, hTO⟩, h1, h2, h3⟩ := st
    exact ⟨k z (by simp) _ hz, k TI (by simp) _ hTI, ⟨a1, a2, a3, k TO (by simp) _ hTO⟩, h1.at fun o q => k i1 (by simp) o q, h2.at fun o q => k i2 (by simp) o q, h3.at fun o q => k i3 (by simp) o q⟩
  item := by
    intro X hP hw hK hc i pins s σ H E I hf st hg
    subst hP hw hK
    obtain ⟨hz, hTI, ⟨a1, a2, a3, hTO⟩, h1, h2, h3⟩ := st
    obtain ⟨vs, hv⟩ := hg
    cases hv with
    | cons r1 hv1 =>
      rename_i v1 ws1
      obtain ⟨xs1, hq1, hx1⟩ := r1
      obtain ⟨its1, rv1, q1, _⟩ := sq_seq I hq1
      obtain ⟨u1, hu1, ru1⟩ := rv1.get hx1
      have g1 : its1.toArray[i]? = some u1 := by simpa using hu1
      have l1 : i < its1.toArray.size := by have := (List.getElem?_eq_some_iff.mp hu1).1; simpa using this
      cases hv1 with
      | cons r2 hv2 =>
        rename_i v2 ws2
        obtain ⟨xs2, hq2, hx2⟩ := r2
        obtain ⟨its2, rv2, q2, _⟩ := sq_seq I hq2
        obtain ⟨u2, hu2, ru2⟩ := rv2.get hx2
        have g2 : its2.toArray[i]? = some u2 := by simpa using hu2
        have l2 : i < its2.toArray.size := by have := (List.getElem?_eq_some_iff.mp hu2).1; simpa using this
        cases hv2 with
        | cons r3 hv3 =>
          rename_i v3 ws3
          obtain ⟨xs3, hq3, hx3⟩ := r3
          obtain ⟨its3, rv3, q3, _⟩ := sq_seq I hq3
          obtain ⟨u3, hu3, ru3⟩ := rv3.get hx3
          have g3 : its3.toArray[i]? = some u3 := by simpa using hu3
          have l3 : i < its3.toArray.size := by have := (List.getElem?_eq_some_iff.mp hu3).1; simpa using this
          cases hv3
          have hzl : z < s.heap.objs.size := Heap.lt_size hz
          refine py_item3 S (draws_of (A := X.A.in1) (I.ok.hd hc) i1 p1 ne1 its1) (draws_of (A := X.A.in1) (I.ok.hd hc) i2 p2 ne2 its2) (draws_of (A := X.A.in1) (I.ok.hd hc) i3 p3 ne3 its3) hz hTI hTO ⟨h1, q1⟩ ⟨h2, q2⟩ ⟨h3, q3⟩ l1 l2 l3 fun x1 x2 x3 hA tk y1 y2 y3 z2 TO2 n1 n2 n3 hT hk => ?_
          obtain rfl : u1 = x1 := Option.some.inj (g1.symm.trans y1)
          obtain rfl : u2 = x2 := Option.some.inj (g2.symm.trans y2)
          obtain rfl : u3 = x3 := Option.some.inj (g3.symm.trans y3)
          refine ⟨_, rfl, go_zip (s := { s with heap := hA, toks := tk }) z2 fun hB z3 sb => ?_⟩
          replace sb : Heap.SameBut z hA hB := sb
          have hT2 : hB.get? s.heap.objs.size = some { cls := .type "tuple", data := .seq #[u1, u2, u3] } := (sb.2 _ (Nat.ne_of_gt hzl)).trans hT
          have new : ObjOk X.prog X.w (upd H s.heap.objs.size (.tup [v1, v2, v3])) hB s.heap.objs.size (.tup [v1, v2, v3]) := ⟨by show 3 ≤ sizeLine; decide, [u1, u2, u3], (.cons ru1 (.cons ru2 (.cons ru3 .nil))), ⟨_, hT2, rfl, _, rfl⟩⟩
          have I1 : Inv X pins σ (upd H s.heap.objs.size (.tup [v1, v2, v3])) { s with heap := hB, toks := tk } := I.turnedNew (t' := tk) (ch := [z, TI, TO, i1, i2, i3]) (fun c o hb q => (sb.2 c (fun q => hb (by simp [q]))).trans (hk c o (fun q => hb (by simp [q])) (fun q => hb (by simp [q])) (fun q => hb (by simp [q])) (fun q => hb (by simp [q])) (fun q => hb (by simp [q])) q)) hf (Nat.le_refl _) new
          refine ⟨.ref s.heap.objs.size, _, I1, rfl, ⟨_, _, rfl, I.hok.fresh (Nat.le_refl _), rfl, (.cons (fun l hl => by rw [sq_inj I hl hq1]; exact hx1) (.cons (fun l hl => by rw [sq_inj I hl hq2]; exact hx2) (.cons (fun l hl => by rw [sq_inj I hl hq3]; exact hx3) .nil)))⟩, ⟨z3, (sb.2 _ S.zTI.symm).trans (hk _ _ S.zTI.symm S.TOTI.symm S.I1 S.I2 S.I3 hTI), ⟨u1, u2, u3, (sb.2 _ S.zTO.symm).trans TO2⟩, (n1.1.at fun o q => (sb.2 _ (fun q => S.z1 (by rw [← q]; exact S.m1))).trans q), (n2.1.at fun o q => (sb.2 _ (fun q => S.z2 (by rw [← q]; exact S.m2))).trans q), (n3.1.at fun o q => (sb.2 _ (fun q => S.z3 (by rw [← q]; exact S.m3))).trans q)⟩, fun c hcm => ?_⟩
          have hlt : c < s.heap.objs.size := by
            have e : c = z ∨ c = TI ∨ c = TO ∨ c = i1 ∨ c = i2 ∨ c = i3 := by simpa using hcm
            rcases e with q | q | q | q | q | q
            · rw [q]; exact hzl
            · rw [q]; exact Heap.lt_size hTI
            · rw [q]; exact Heap.lt_size hTO
            · rw [q]; obtain ⟨_, e1, _⟩ := h1.obj; exact Heap.lt_size e1
            · rw [q]; obtain ⟨_, e1, _⟩ := h2.obj; exact Heap.lt_size e1
            · rw [q]; obtain ⟨_, e1, _⟩ := h3.obj; exact Heap.lt_size e1
          rw [upd_ne (Nat.ne_of_lt hlt)]
          exact (hf c hcm).1
  done := by
    intro X hP hw hK hc i pins s σ H E I hf st hg
    subst hP hw hK
    obtain ⟨hz, hTI, ⟨a1, a2, a3, hTO⟩, h1, h2, h3⟩ := st
    obtain ⟨xs1, hq1, hx1⟩ := hg p1 (by simp)
    obtain ⟨its1, rv1, q1, _⟩ := sq_seq I hq1
    have l1 : its1.toArray.size = i := by have := rv1.length; simp; omega
    have D1 := draws_of (prog := X.prog) (w := X.w) (A := X.A.in1) (I.ok.hd hc) i1 p1 ne1 its1
    rw [l1] at D1
    obtain ⟨xs2, hq2, hx2⟩ := hg p2 (by simp)
    obtain ⟨its2, rv2, q2, _⟩ := sq_seq I hq2
    have l2 : its2.toArray.size = i := by have := rv2.length; simp; omega
    have D2 := draws_of (prog := X.prog) (w := X.w) (A := X.A.in1) (I.ok.hd hc) i2 p2 ne2 its2
    rw [l2] at D2
    obtain ⟨xs3, hq3, hx3⟩ := hg p3 (by simp)
    obtain ⟨its3, rv3, q3, _⟩ := sq_seq I hq3
    have l3 : its3.toArray.size = i := by have := rv3.length; simp; omega
    have D3 := draws_of (prog := X.prog) (w := X.w) (A := X.A.in1) (I.ok.hd hc) i3 p3 ne3 its3
    rw [l3] at D3
    exact py_end3 (I.ok.hd hc) S D1 D2 D3 hz hTI hTO ⟨h1, q1⟩ ⟨h2, q2⟩ ⟨h3, q3⟩ fun h2 hk => ⟨rfl, I.turnedL (t' := s.toks) (ch := [z, TI, TO, i1, i2, i3]) (fun c o hb q => hk c o (fun q => hb (by simp [q])) (fun q => hb (by simp [q])) (fun q => hb (by simp [q])) (fun q => hb (by simp [q])) (fun q => hb (by simp [q])) q) hf⟩
  self := fun A i s Q E st h => iter_zip st.1 h
theorem sep_new3 {M : Nat} {p1 p2 p3 : Bool × Addr} (h1 : p1.2 < M) (h2 : p2.2 < M) (h3 : p3.2 < M) : Sep3 (M + 5) (M + 3) (M + 4) M (M + 1) (M + 2) [M, p1.2] [M + 1, p2.2] [M + 2, p3.2] where
  zTO := by show (M + 5 : Nat) ≠ M + 4; omega
  zTI := by show (M + 5 : Nat) ≠ M + 3; omega
  TOTI := by show (M + 4 : Nat) ≠ M + 3; omega
  m1 := by simp
  z1 := nin_new (a := p1.2) 5 0 h1 (by decide)
  T1 := nin_new (a := p1.2) 4 0 h1 (by decide)
  I1 := by show (M + 3 : Nat) ≠ M; omega
  s2_1 := nin_new (a := p1.2) 1 0 h1 (by decide)
  s3_1 := nin_new (a := p1.2) 2 0 h1 (by decide)
  m2 := by simp
  z2 := nin_new (a := p2.2) 5 1 h2 (by decide)
  T2 := nin_new (a := p2.2) 4 1 h2 (by decide)
  I2 := by show (M + 3 : Nat) ≠ M + 1; omega
  s1_2 := nin_new (a := p2.2) 0 1 h2 (by decide)
  s3_2 := nin_new (a := p2.2) 2 1 h2 (by decide)
  m3 := by simp
  z3 := nin_new (a := p3.2) 5 2 h3 (by decide)
  T3 := nin_new (a := p3.2) 4 2 h3 (by decide)
  I3 := by show (M + 3 : Nat) ≠ M + 2; omega
  s1_3 := nin_new (a := p3.2) 0 2 h3 (by decide)
  s2_3 := nin_new (a := p3.2) 1 2 h3 (by decide)
theorem pi_z3s {X : Cx} {e1 e2 e3 : Expr} {ta : TA} {p pos tpos : Pos} {elts : List Expr} {kk : Nat} {jj : Nat} {kp kp2 : Pos} {fl : List Bool} (hfl : fl.length = 3) (hg : Gl X "zip") (hm : X.mg "zip" = none) (ha : PA X [e1, e2, e3] ta)
    (hs : starEach [e1, e2, e3] X.env = (false, eval e1 X.env) :: starEach [e2, e3] X.env := by rfl) (hpl : (backTo pos (starEach [e2, e3] X.env)).any (·.1) = false := by rfl) :
    PI X (.Tuple elts kk tpos) (.Call (.Name "zip" p) [e1, e2, e3] [⟨some "strict", .Constant (.bool true) jj kp, kp2⟩] pos) (iZ X.K fl ta) := by
  refine ⟨fun pins s σ H R I h => ?_⟩
  refine wpAny_Call_Name_kw (ld_blt I hg hm PyProof.Rows.boot_zip ?_)
  refine PySem.W.callWith_of (P := fun _ => True) ?_ (fun h _ => looks_ty "zip" True.intro) ?_
  · show ((backTo pos (starEach _ X.env)).any (·.1) || false) = false
    rw [hs, Bool.or_false]
    exact hpl
  have he : backTo pos (starEach [e1, e2, e3] X.env) = (false, eval e1 X.env) :: backTo pos (starEach [e2, e3] X.env) := by rw [hs]; rfl
  rw [he]
  refine PyProof.Rows.evalArgs_kwB rfl ?_
  rw [← he]
  refine thn (ha.run pos pins s σ H _ I h) fun us s0 ⟨vs, H1, I0, r1, q1⟩ => ?_
  refine PyProof.Rows.kws_cons (Constant_bool (PyProof.Rows.kws_nil ⟨True.intro, ?_⟩))
  have I1 := I0
  obtain ⟨l, ev, el, hl, q1⟩ := q1
  subst ev
  obtain ⟨b1, b2, b3, rfl⟩ : ∃ b1 b2 b3 : Bool, fl = [b1, b2, b3] := match fl, hfl with | [_, _, _], _ => ⟨_, _, _, rfl⟩
  obtain ⟨c1, c2, c3, rfl⟩ : ∃ c1 c2 c3 : Addr, l = [c1, c2, c3] := match l, el with | [_, _, _], _ => ⟨_, _, _, rfl⟩
  cases r1 with
  | cons r_1 rr1 =>
    cases r_1
    cases rr1 with
    | cons r_2 rr2 =>
      cases r_2
      cases rr2 with
      | cons r_3 rr3 =>
        cases r_3
        cases rr3
        obtain ⟨xs1, hq1⟩ := hl (b1, c1) (by simp)
        obtain ⟨its1, rv1, g1, lt1⟩ := sq_seq I1 hq1
        obtain ⟨xs2, hq2⟩ := hl (b2, c2) (by simp)
        obtain ⟨its2, rv2, g2, lt2⟩ := sq_seq I1 hq2
        obtain ⟨xs3, hq3⟩ := hl (b3, c3) (by simp)
        obtain ⟨its3, rv3, g3, lt3⟩ := sq_seq I1 hq3
        have frs : ∀ c, c ∈ [s0.heap.objs.size + 5, s0.heap.objs.size + 3, s0.heap.objs.size + 4, s0.heap.objs.size, s0.heap.objs.size + 1, s0.heap.objs.size + 2] → FpOk X pins H1 c := fun c hcm => by
          have e : c = s0.heap.objs.size + 5 ∨ c = s0.heap.objs.size + 3 ∨ c = s0.heap.objs.size + 4 ∨ c = s0.heap.objs.size ∨ c = s0.heap.objs.size + 1 ∨ c = s0.heap.objs.size + 2 := by simpa using hcm
          have hle : s0.heap.objs.size ≤ c := by
            rcases e with q | q | q | q | q | q
            · rw [q]; exact Nat.le_add_right _ _
            · rw [q]; exact Nat.le_add_right _ _
            · rw [q]; exact Nat.le_add_right _ _
            · rw [q]; exact Nat.le_refl _
            · rw [q]; exact Nat.le_add_right _ _
            · rw [q]; exact Nat.le_add_right _ _
          exact I1.fpOk hle (I1.hok.fresh hle)
        refine begins_strict3 (begins_of (b1, c1) its1) (begins_of (b2, c2) its2) (begins_of (b3, c3) its3) g1 g2 g3 fun hA hz hTI hTO y1 y2 y3 kk => iter_zip hz ?_
        have I2 : Inv X pins σ H1 { s0 with heap := hA } := I1.kept (t' := s0.toks) kk
        exact ⟨_, [s0.heap.objs.size + 5, s0.heap.objs.size + 3, s0.heap.objs.size + 4, s0.heap.objs.size, s0.heap.objs.size + 1, s0.heap.objs.size + 2], _, _, H1, rfl, I2, turn_z3 (sep_new3 lt1 lt2 lt3) (Nat.ne_of_lt lt1) (Nat.ne_of_lt (Nat.lt_of_lt_of_le lt2 (Nat.le_add_right _ 1))) (Nat.ne_of_lt (Nat.lt_of_lt_of_le lt3 (Nat.le_add_right _ 2))), ⟨hz, hTI, ⟨_, _, _, hTO⟩, SqIt.begin y1, SqIt.begin y2, SqIt.begin y3⟩, frs, q1⟩
theorem pi_z3 {X : Cx} {e1 e2 e3 : Expr} {ta : TA} {p pos tpos : Pos} {elts : List Expr} {kk : Nat} {fl : List Bool} (hfl : fl.length = 3) (hg : Gl X "zip") (hm : X.mg "zip" = none) (ha : PA X [e1, e2, e3] ta)
    (hs : starEach [e1, e2, e3] X.env = (false, eval e1 X.env) :: starEach [e2, e3] X.env := by rfl) (hpl : (backTo pos (starEach [e2, e3] X.env)).any (·.1) = false := by rfl) :
    PI X (.Tuple elts kk tpos) (.Call (.Name "zip" p) [e1, e2, e3] [] pos) (iZ X.K fl ta) := by
  refine ⟨fun pins s σ H R I h => ?_⟩
  refine Call_ (ld_blt I hg hm PyProof.Rows.boot_zip (PyProof.Rows.callWith_type1 (thn (ha.run pos pins s σ H _ I h) fun us s0 ⟨vs, H1, I1, r1, q1⟩ => ?_) hs hpl))
  obtain ⟨l, ev, el, hl, q1⟩ := q1
  subst ev
  obtain ⟨b1, b2, b3, rfl⟩ : ∃ b1 b2 b3 : Bool, fl = [b1, b2, b3] := match fl, hfl with | [_, _, _], _ => ⟨_, _, _, rfl⟩
  obtain ⟨c1, c2, c3, rfl⟩ : ∃ c1 c2 c3 : Addr, l = [c1, c2, c3] := match l, el with | [_, _, _], _ => ⟨_, _, _, rfl⟩
  cases r1 with
  | cons r_1 rr1 =>
    cases r_1
    cases rr1 with
    | cons r_2 rr2 =>
      cases r_2
      cases rr2 with
      | cons r_3 rr3 =>
        cases r_3
        cases rr3
        obtain ⟨xs1, hq1⟩ := hl (b1, c1) (by simp)
        obtain ⟨its1, rv1, g1, lt1⟩ := sq_seq I1 hq1
        obtain ⟨xs2, hq2⟩ := hl (b2, c2) (by simp)
        obtain ⟨its2, rv2, g2, lt2⟩ := sq_seq I1 hq2
        obtain ⟨xs3, hq3⟩ := hl (b3, c3) (by simp)
        obtain ⟨its3, rv3, g3, lt3⟩ := sq_seq I1 hq3
        have frs : ∀ c, c ∈ [s0.heap.objs.size + 5, s0.heap.objs.size + 3, s0.heap.objs.size + 4, s0.heap.objs.size, s0.heap.objs.size + 1, s0.heap.objs.size + 2] → FpOk X pins H1 c := fun c hcm => by
          have e : c = s0.heap.objs.size + 5 ∨ c = s0.heap.objs.size + 3 ∨ c = s0.heap.objs.size + 4 ∨ c = s0.heap.objs.size ∨ c = s0.heap.objs.size + 1 ∨ c = s0.heap.objs.size + 2 := by simpa using hcm
          have hle : s0.heap.objs.size ≤ c := by
            rcases e with q | q | q | q | q | q
            · rw [q]; exact Nat.le_add_right _ _
            · rw [q]; exact Nat.le_add_right _ _
            · rw [q]; exact Nat.le_add_right _ _
            · rw [q]; exact Nat.le_refl _
            · rw [q]; exact Nat.le_add_right _ _
            · rw [q]; exact Nat.le_add_right _ _
          exact I1.fpOk hle (I1.hok.fresh hle)
        refine zip_begins3 (begins_of (b1, c1) its1) (begins_of (b2, c2) its2) (begins_of (b3, c3) its3) g1 g2 g3 fun hA hz hTI hTO y1 y2 y3 _ kk => iter_zip (b := false) hz ?_
        have I2 : Inv X pins σ H1 { s0 with heap := hA } := I1.kept (t' := s0.toks) kk
        exact ⟨_, [s0.heap.objs.size + 5, s0.heap.objs.size + 3, s0.heap.objs.size + 4, s0.heap.objs.size, s0.heap.objs.size + 1, s0.heap.objs.size + 2], _, _, H1, rfl, I2, turn_z3 (sep_new3 lt1 lt2 lt3) (Nat.ne_of_lt lt1) (Nat.ne_of_lt (Nat.lt_of_lt_of_le lt2 (Nat.le_add_right _ 1))) (Nat.ne_of_lt (Nat.lt_of_lt_of_le lt3 (Nat.le_add_right _ 2))), ⟨hz, hTI, ⟨_, _, _, hTO⟩, SqIt.begin y1, SqIt.begin y2, SqIt.begin y3⟩, frs, q1⟩
end CZ

namespace CS
open PySem PySem.Spec PyProof.Rows L2
/-! ### rules beside the layer's -/
section
variable {X : Cx}
/-- a product, whatever the reason that it fits -/
theorem op_mulI : OpR X (binaryOp .Mult) (rI IntMulOk fun i j => .int (i * j)) := opI fun _ _ _ _ _ _ _ hc q => mul_int q hc
/-- list + list, however each is known -/
def rCatR (K : PySem.W.Frag) : R2 := fun x y H Q => ∃ l b xs zs, x = .ref l ∧ y = .ref b ∧ SqL K H l xs ∧ SqL K H b zs ∧ xs.length + zs.length ≤ sizeLine ∧ ∀ p, H p = none → Q (.ref p) (upd H p (.lst (xs ++ zs)))
theorem op_catR : OpR X (binaryOp .Add) (rCatR X.K) := by
  intro pins s σ H x y v u Q I rx ry h
  obtain ⟨l, b, xs, zs, rfl, rfl, hH, hB, hz, q⟩ := h
  cases rx
  cases ry
  obtain ⟨its, r, p1, _⟩ := I.list hH
  obtain ⟨its2, r2, p2, _⟩ := I.list hB
  obtain ⟨⟨cls, dd, data, sl⟩, ho, hc, n, hd⟩ := id p1.isList
  obtain ⟨⟨cls2, dd2, data2, sl2⟩, ho2, hc2, n2, hd2⟩ := id p2.isList
  simp only at hc hd hc2 hd2
  subst hc hd hc2 hd2
  have l1 := r.length
  have l2 := r2.length
  have ea : its.toArray ++ its2.toArray = (its ++ its2).toArray := by simp
  refine concat_meets ⟨_, ho, rfl⟩ ⟨_, ho2, rfl⟩ noFill_list_add seq_list_add PySem.F.slot_list_add PySem.F.entry_list_add (PySem.F.args_list_add_2 _ _) (list_addW l b its.toArray its2.toArray n n2 dd dd2 sl sl2 (by rw [List.size_toArray, List.size_toArray]; omega)) ⟨ho, ho2, ?_⟩
  rw [ea]
  exact ⟨.ref _, _, I.lnew (t' := s.toks) (r.append r2) (by rw [List.length_append]; omega), rfl, q _ I.fresh⟩
theorem pi_or {tg it : Expr} {w1 w2 : TI} (h1 : PI X tg it w1) (h2 : PI X tg it w2) : PI X tg it (fun σ H R => w1 σ H R ∨ w2 σ H R) :=
  ⟨fun pins s σ H R I h => h.elim (fun z => h1.run pins s σ H R I z) fun z => h2.run pins s σ H R I z⟩
end
/-! ### calls by keywords alone -/
def pick {α : Type} (js : List Nat) (l : List α) : List α := js.filterMap fun j => l[j]?
theorem vals_pick {xs : List V} {us : List Value} (r : Vals xs us) : ∀ js : List Nat, Vals (pick js xs) (pick js us)
  | [] => .nil
  | j :: js => by
    have ih := vals_pick r js
    unfold pick at ih ⊢
    cases e : xs[j]? with
    | none =>
      have e2 := r.none_of e
      rw [List.filterMap_cons_none (by rw [e]), List.filterMap_cons_none (by rw [e2])]
      exact ih
    | some x =>
      obtain ⟨u, e2, ru⟩ := r.get e
      rw [List.filterMap_cons_some (by rw [e]), List.filterMap_cons_some (by rw [e2])]
      exact .cons ru ih
theorem kbn_of {K : PySem.W.Frag} {x qual : Str} {st : Stmt} {f : Addr} {fd : FuncData} {ps : List Str} (F : Fun K x qual st f fd) (n : Nat) (ks : List Str) (js : List Nat)
    (h : ∀ (kV doc pm : Value) (an : Option Addr) (cdv ct : Value) (us ws : List Value), us.length = n → ws.length = ks.length → bindArgs (PySem.W.fnOf x qual (defArgs st) (defBody st) (defScope st) .none kV doc pm an cdv ct) ⟨us, ks.zip ws⟩ = pure (ps.zip (pick js (us ++ ws)))) :
    KBn K fd ps n ks (fun us ws => pick js (us ++ ws)) (fun vs zs => pick js (vs ++ zs)) := by
  obtain ⟨oc, od, kV, doc, pm, an, cdv, ct, osl, rfl, lk, hcd⟩ := F.ex
  exact ⟨fun s us ws _ h1 h2 => .of_eq (h kV doc pm an cdv ct us ws h1 h2), fun r1 r2 => vals_pick (r1.append r2) js⟩
section
variable {X : Cx} {CX : CXT} {k n : Nat} {f C : Addr} {fd : FuncData} {ps ks : List Str} {sp : Sp} {E : XK} {x m : Str} {p pos apos : Pos} {o : Expr} {kws : List Keyword} {ta : TE} {tk : TA} {g : List Value → List Value → List Value} {gV : List V → List V → List V}
theorem run_kw {pins : List (Addr × Obj)} {σ : L2.St} {H : Hp} {s : Shared} {Q : VK} {us ws : List Value} {vs zs : List V} (F : FnOk X.prog X.w X.K X.mg X.base CX k f fd ps sp) (hr : Room k X.A) (hb : KBn X.K fd ps n ks g gV) (hx : Passes CX X E)
    (I : Inv X pins σ H s) (r : Vals vs us) (rz : Vals zs ws) (l1 : vs.length = n) (l2 : zs.length = ks.length) (h : sp (gV vs zs) H Q E) : wpAny (model X.prog X.w) X.A (call (.ref f) us (ks.zip ws)) (EP X pins σ Q) X.xe s := by
  refine wpAny_call (codeAny_mono (F.run X.A X.stack s H ⟨us, ks.zip ws⟩ (g us ws) (gV vs zs) Q E hr I.env0 (hb.to s us ws I.kIn (r.length.symm.trans l1) (rz.length.symm.trans l2)) (hb.rel r rz) h) fun res s2 hq => ?_)
  cases res with
  | error e => exact hx pins σ H s e s2 I hq
  | ok fl =>
    cases fl with
    | ret u => exact I.after hq
    | next => exact False.elim hq
    | brk => exact False.elim hq
    | cont => exact False.elim hq
/-- f(k = v, ..) -/
def tCallKw (m : Nat) (sp : Sp) (gV : List V → List V → List V) (E : XK) (tk : TA) : TE := fun σ H Q => tk σ H fun zs H1 => zs.length = m ∧ sp (gV [] zs) H1 Q E
theorem pe_callKw (F : FnOk X.prog X.w X.K X.mg X.base CX k f fd ps sp) (hr : Room k X.A) (hg : Gl X x) (hm : X.mg x = some (.ref f)) (hk : PySem.W.keepIn X.K (.ref f) = true) (hb : KBn X.K fd ps 0 ks g gV) (hx : Passes CX X E) (hkw : PK X kws tk)
    (hall : (backToKw pos (keywordEach kws X.env)).all (·.1.isSome) = true := by rfl) (hks : (backToKw pos (keywordEach kws X.env)).filterMap (·.1) = ks := by rfl) (hdb : (x == ("__debug__" : Str)) = false := by decide)
    (hpl : ((backTo pos (starEach [] X.env)).any (·.1) || (backToKw pos (keywordEach kws X.env)).any (·.1.isNone)) = false := by rfl) :
    PE X (.Call (.Name x p) [] kws pos) (tCallKw ks.length sp gV E tk) := by
  refine ⟨fun pins s σ H Q I h => ?_⟩
  refine wpAny_Call_Name_kw (ld_glob I hg hm ?_ hdb)
  refine PySem.W.callWith_KW0 (h₀ := X.base) I.ok.mod.kin hk hall (thn (hkw.run pos pins s σ H _ I h) fun ws s2 ⟨zs, H2, I2, rz, l2, q2⟩ => ⟨I2.kIn, ?_⟩) hpl
  rw [hks]
  exact run_kw (us := []) (vs := []) F hr hb hx I2 .nil rz rfl l2 q2
/-- o.m(k = v, ..) -/
def tMethKw (C : Addr) (m : Str) (n : Nat) (sp : Sp) (gV : List V → List V → List V) (E : XK) (ta : TE) (tk : TA) : TE := fun σ H Q => ta σ H fun x H1 => ∃ a dx fs, x = .ref a ∧ H1 a = some (.ins C dx fs) ∧ fs.lookup m = none ∧
  tk σ H1 fun zs H2 => zs.length = n ∧ sp (gV [x] zs) H2 Q E
theorem pe_methKw {pl : Sem Bool} (he : PE X o ta) (c : Cls X.K C) (hm : Meth X.K C m f) (F : FnOk X.prog X.w X.K X.mg X.base CX k f fd ps sp) (hr : Room k X.A) (hb : KBn X.K fd ps 1 ks g gV) (hx : Passes CX X E) (hkw : PK X kws tk)
    (hall : (backToKw pos (keywordEach kws X.env)).all (·.1.isSome) = true := by rfl) (hks : (backToKw pos (keywordEach kws X.env)).filterMap (·.1) = ks := by rfl)
    (hpl : ((backTo pos (starEach [] X.env)).any (·.1) || (backToKw pos (keywordEach kws X.env)).any (·.1.isNone)) = false := by rfl)
    (ht : eval (.Call (.Attribute o m apos) [] kws pos) X.env = (do
      let ov ← eval o X.env
      standAt apos.atName
      let (f, first) ← holding [ov] (getMethod ov m pl)
      callWith pos f first (backTo pos (starEach [] X.env)) (backToKw pos (keywordEach kws X.env))) := by rfl) :
    PE X (.Call (.Attribute o m apos) [] kws pos) (tMethKw C m ks.length sp gV E ta tk) := by
  refine ⟨fun pins s σ H Q I h => ?_⟩
  refine PySem.W.methodCall_KW (pl := pl) (thn (he.run pins s σ H _ I h) fun u s1 ⟨x, H1, I1, rx, a, dx, fs, ex, ea, l, q⟩ => ?_) ht
  subst ex
  obtain rfl : u = Value.ref a := rx
  refine getmeth_ok I1 ea c hm l ?_
  refine PySem.W.callWith_KW0 (first := [.ref a]) (h₀ := X.base) I.ok.mod.kin hm.kp hall (thn (hkw.run pos pins s1 σ H1 _ I1 q) fun ws s2 ⟨zs, H2, I2, rz, l2, q2⟩ => ⟨I2.kIn, ?_⟩) hpl
  rw [hks]
  exact run_kw (us := [.ref a]) (vs := [.ref a]) F hr hb hx I2 (.cons rfl .nil) rz rfl l2 q2
end
/-! ### heaps that grow -/
abbrev Ex (H H2 : Hp) : Prop := Evl.Ex H H2
theorem exr {H : Hp} : Ex H H := fun _ _ h => h
theorem exn {H : Hp} {p : Addr} {o : HO} (h : H p = none) : Ex H (upd H p o) := Evl.Ex.new h
theorem SqK.mono {K : PySem.W.Frag} {H H2 : Hp} {p : Bool × Addr} {xs : List V} (e : Ex H H2) (h : CZ.SqK K H p xs) : CZ.SqK K H2 p xs := by
  obtain ⟨b, a⟩ := p
  cases b
  · exact Evl.ex_l e h
  · exact Evl.ex_t e h
/-- a comprehension whose element and tests leave all that stood: out i is what stands behind i turns -/
theorem lc_out {J : It} {n : Nat} {G : Hp → Prop} {Y : Nat → Hp → V → Hp → Prop} (w : Walk J n G Y) {g : TG} {tt : TT} {te : TE} {vs : List Nat} {σ : L2.St} {H1 : Hp} {D : Addr} {Qd : Hp → Prop} (out : Nat → List V) (h0 : out 0 = []) (hD : H1 D = none)
    (hlen : ∀ i, i < n → (out i).length < sizeLine) (hG : ∀ H, Ex H1 H → G H)
    (hs : ∀ i x H H2 (Nx : Hp → Prop), i < n → Ex H1 H → H D = some (.lst (out i)) → Y i H x H2 →
      (∀ y H5, Ex H H5 → out (i + 1) = out i ++ [y] → ∃ acc, H5 D = some (.lst acc) ∧ acc.length < sizeLine ∧ Nx (upd H5 D (.lst (acc ++ [y])))) → (∀ H4, Ex H H4 → out (i + 1) = out i → Nx H4) →
      g x (wipe σ vs) H2 fun σ2 H3 => wipe σ2 vs = wipe σ vs ∧ tt σ2 H3 fun b H4 => if b = true then te σ2 H4 fun y H5 => ∃ acc, H5 D = some (.lst acc) ∧ acc.length < sizeLine ∧ Nx (upd H5 D (.lst (acc ++ [y]))) else Nx H4)
    (hd : ∀ H, Ex H1 H → H D = some (.lst (out n)) → Qd H) :
    ∃ W : Nat → Nat → Hp → Prop, (∃ m, W 0 m (upd H1 D (.lst []))) ∧ ∀ i m H, W i m H →
      (J.stop i H ∧ Qd H) ∨ (J.go i H ∧ ∃ Nx : Hp → Prop, (∀ H2, Nx H2 → ∃ m2, m2 < m ∧ W (i + 1) m2 H2) ∧ ∀ x H2, J.yld i H x H2 → g x (wipe σ vs) H2 fun σ2 H3 => wipe σ2 vs = wipe σ vs ∧ tt σ2 H3 fun b H4 =>
        if b = true then te σ2 H4 fun y H5 => ∃ acc, H5 D = some (.lst acc) ∧ acc.length < sizeLine ∧ Nx (upd H5 D (.lst (acc ++ [y]))) else Nx H4) := by
  refine lc_it w (fun i H => Ex H1 H ∧ H D = some (.lst (out i))) ⟨exn hD, by rw [upd_same, h0]⟩ (fun i H _ p => hG H p.1) (fun i x H H2 hi p y => ?_) (fun H p => hd H p.1 p.2)
  refine hs i x H H2 _ hi p.1 p.2 y (fun y2 H5 e eo => ⟨out i, e D _ p.2, hlen i hi, fun b o q => ?_, by rw [upd_same, eo]⟩) (fun H4 e eo => ⟨fun b o q => e b o (p.1 b o q), by rw [eo]; exact e D _ p.2⟩)
  rw [upd_ne (ne_of_none q hD)]
  exact e b o (p.1 b o q)
/-- .. whose list is known: vals -/
theorem lc_vals {J : It} {n : Nat} {G : Hp → Prop} {Y : Nat → Hp → V → Hp → Prop} (w : Walk J n G Y) {g : TG} {te : TE} {vs : List Nat} {σ : L2.St} {H1 : Hp} {D : Addr} {Qd : Hp → Prop} (vals : List V) (hn : vals.length = n) (hl : n ≤ 10000000) (hD : H1 D = none)
    (hG : ∀ H, Ex H1 H → G H)
    (hs : ∀ i x H H2 (R : VK), i < n → Ex H1 H → Y i H x H2 → (∀ y H5, Ex H H5 → vals[i]? = some y → R y H5) → g x (wipe σ vs) H2 fun σ2 H3 => wipe σ2 vs = wipe σ vs ∧ te σ2 H3 R)
    (hg : ∀ x σ2 H2 (R R2 : L2.St → Hp → Prop), (∀ σ3 H3, R σ3 H3 → R2 σ3 H3) → g x σ2 H2 R → g x σ2 H2 R2)
    (hd : ∀ H, Ex H1 H → H D = some (.lst vals) → Qd H) :
    ∃ W : Nat → Nat → Hp → Prop, (∃ m, W 0 m (upd H1 D (.lst []))) ∧ ∀ i m H, W i m H →
      (J.stop i H ∧ Qd H) ∨ (J.go i H ∧ ∃ Nx : Hp → Prop, (∀ H2, Nx H2 → ∃ m2, m2 < m ∧ W (i + 1) m2 H2) ∧ ∀ x H2, J.yld i H x H2 → g x (wipe σ vs) H2 fun σ2 H3 => wipe σ2 vs = wipe σ vs ∧ tYes σ2 H3 fun b H4 =>
        if b = true then te σ2 H4 fun y H5 => ∃ acc, H5 D = some (.lst acc) ∧ acc.length < sizeLine ∧ Nx (upd H5 D (.lst (acc ++ [y]))) else Nx H4) := by
  refine lc_out w (fun i => vals.take i) rfl hD (fun i hi => ?_) hG (fun i x H H2 Nx hi e hDi y kA _ => ?_) (fun H e h => hd H e ?_)
  · rw [List.length_take]
    exact Nat.lt_of_le_of_lt (Nat.le_trans (Nat.min_le_right _ _) (by rw [hn]; exact hl)) (by decide)
  · refine hg _ _ _ _ _ (fun σ3 H3 q => ⟨q.1, ?_⟩) (hs i x H H2 (fun y H5 => ∃ acc, H5 D = some (.lst acc) ∧ acc.length < sizeLine ∧ Nx (upd H5 D (.lst (acc ++ [y])))) hi e y fun y2 H5 e5 ev => kA y2 H5 e5 ?_)
    · exact q.2
    · rw [List.take_add_one, ev]
      rfl
  · rw [h, List.take_of_length_le (by rw [hn]; exact Nat.le_refl _)]
theorem gmono_name {i : Nat} : ∀ x σ2 H2 (R R2 : L2.St → Hp → Prop), (∀ σ3 H3, R σ3 H3 → R2 σ3 H3) → gName i x σ2 H2 R → gName i x σ2 H2 R2 := fun _ _ _ _ _ h q => h _ _ q
theorem gmono_nil : ∀ vs σ2 H2 (R R2 : L2.St → Hp → Prop), (∀ σ3 H3, R σ3 H3 → R2 σ3 H3) → gNil vs σ2 H2 R → gNil vs σ2 H2 R2 := fun _ _ _ _ _ h q => ⟨q.1, h _ _ q.2⟩
theorem gmono_cons {t : TG} {u : TGs} (ht : ∀ x σ2 H2 (R R2 : L2.St → Hp → Prop), (∀ σ3 H3, R σ3 H3 → R2 σ3 H3) → t x σ2 H2 R → t x σ2 H2 R2) (hu : ∀ x σ2 H2 (R R2 : L2.St → Hp → Prop), (∀ σ3 H3, R σ3 H3 → R2 σ3 H3) → u x σ2 H2 R → u x σ2 H2 R2) :
    ∀ vs σ2 H2 (R R2 : L2.St → Hp → Prop), (∀ σ3 H3, R σ3 H3 → R2 σ3 H3) → gCons t u vs σ2 H2 R → gCons t u vs σ2 H2 R2 := fun vs σ2 H2 R R2 h q => by
  obtain ⟨v, r, e, q⟩ := q
  exact ⟨v, r, e, ht _ _ _ _ _ (fun σ3 H3 z => hu _ _ _ _ _ h z) q⟩
theorem gmono_tup {K : PySem.W.Frag} {n : Nat} {t : TGs} (ht : ∀ x σ2 H2 (R R2 : L2.St → Hp → Prop), (∀ σ3 H3, R σ3 H3 → R2 σ3 H3) → t x σ2 H2 R → t x σ2 H2 R2) :
    ∀ v σ2 H2 (R R2 : L2.St → Hp → Prop), (∀ σ3 H3, R σ3 H3 → R2 σ3 H3) → gTup K n t v σ2 H2 R → gTup K n t v σ2 H2 R2 := fun v σ2 H2 R R2 h q => by
  obtain ⟨a, xs, e, h1, h2, q⟩ := q
  exact ⟨a, xs, e, h1, h2, ht _ _ _ _ _ h q⟩
/-! ### a list or a tuple walked -/
def ItS (K : PySem.W.Frag) (p : Bool × Addr) : It := if p.1 = true then Itt K p.2 else Itl K p.2
def iSeq (K : PySem.W.Frag) (tl : TE) : TI := fun σ H R => tl σ H fun x H1 => ∃ p : Bool × Addr, x = .ref p.2 ∧ (∃ xs, CZ.SqK K H1 p xs) ∧ R (ItS K p) H1
theorem pi_seq {X : Cx} {tg l : Expr} {tl : TE} (hl : PE X l tl) : PI X tg l (iSeq X.K tl) := by
  refine ⟨fun pins s σ H R I h => ?_⟩
  refine thn (hl.run pins s σ H _ I h) fun v s1 ⟨x, H1, I1, r1, q1⟩ => ?_
  obtain ⟨⟨b, a⟩, ex, ⟨xs, hq⟩, q⟩ := q1
  subst ex
  cases r1
  obtain ⟨its, rv, g, lt⟩ := CZ.sq_seq I1 hq
  have fp : ∀ c ∈ [s1.heap.objs.size], FpOk X pins H1 c := fun c hc => by
    have e : c = s1.heap.objs.size := by simpa using hc
    rw [e]
    exact I1.fpOk (Nat.le_refl _) (I1.hok.fresh (Nat.le_refl _))
  refine (CZ.begins_of (b, a) its).iter _ _ _ _ s1 _ g ?_
  have I2 : Inv X pins σ H1 { s1 with heap := s1.heap.push (CZ.itO (b, a)) } := I1.kept (t' := s1.toks) fun c o e => Heap.get?_push_of_some _ e
  cases b
  · exact ⟨_, [s1.heap.objs.size], _, _, H1, rfl, I2, turn_list a _, ⟨_, Heap.get?_push_size _ rfl, rfl, rfl⟩, fp, q⟩
  · exact ⟨_, [s1.heap.objs.size], _, _, H1, rfl, I2, turn_tuple a _, ⟨_, Heap.get?_push_size _ rfl, rfl, rfl⟩, fp, q⟩
theorem walk_seq {K : PySem.W.Frag} {p : Bool × Addr} {xs : List V} : Walk (ItS K p) xs.length (fun H => CZ.SqK K H p xs) (YAt xs) := by
  obtain ⟨b, a⟩ := p
  cases b
  · exact walk_list
  · exact walk_tup
theorem itt {c : Bool} {A B : Prop} (h : c = true) (a : A) : if c = true then A else B := by rw [if_pos h]; exact a
theorem itf {c : Bool} {A B : Prop} (h : c = false) (b : B) : if c = true then A else B := by rw [h, if_neg Bool.false_ne_true]; exact b
theorem map_get {α : Type} {f : α → V} {l : List α} {i : Nat} {x : V} (h : (l.map f)[i]? = some x) : ∃ n, l[i]? = some n ∧ x = f n := by
  rw [List.getElem?_map] at h
  cases e : l[i]? with
  | none => rw [e] at h; cases h
  | some n => rw [e] at h; exact ⟨n, rfl, (Option.some.inj h).symm⟩
end CS

namespace CE
open PySem PySem.Spec PyProof.Rows L2 CZ
/-! ### enumerate over a list or a tuple -/
theorem enumO_new {v : Value} {oo : Obj} {Hq : Heap → Prop} (bg : Begins v oo Hq) :
    Meets (Builtin.«enumerate.__new__» ⟨[.type "enumerate", v], []⟩) (fun _ R t => Hq t.heap ∧
      R (.ok (.ret (.ref (t.heap.push oo).objs.size))) { t with heap := (t.heap.push oo).push { cls := .type "enumerate", data := .fields #[.none, .bool false, .ref t.heap.objs.size, rawInt 0, .none, .none] } }) :=
  .of_wp fun pg wo Ar R t hyp => by
    obtain ⟨hh, gg, dd, tt, oq⟩ := t
    obtain ⟨start, goal⟩ := hyp
    have es := PySem.sub_enumerate
    have go1 : ∀ {A2 : Around} {E2 : Value → Shared → Prop} {Q2 : Value → Shared → Prop}, Q2 (.ref hh.objs.size) ⟨hh.push oo, gg, dd, tt, oq⟩ → wpAny (model pg wo) A2 (pyIter v) Q2 E2 ⟨hh, gg, dd, tt, oq⟩ :=
      fun z => bg.iter pg wo _ _ ⟨hh, gg, dd, tt, oq⟩ _ start z
    wp_walk using go1
    refine wpAny_stack_any fun stk => wpAny_pure ?_
    split
    · rename_i cc _ _ _ _ _
      cases (cc == Value.type "enumerate")
      all_goals
        wp_walk using go1
        exact ⟨_, rfl, goal⟩
    · wp_walk using go1
      exact ⟨_, rfl, goal⟩
theorem enum_of {pg : Program} {wo : World} {Ar : Around} {Ex1 : Value → Shared → Prop} {t : Shared} {v : Value} {oo : Obj} {Hq : Heap → Prop} {Qe : Value → Shared → Prop} (bg : Begins v oo Hq) (start : Hq t.heap)
    (goal : ∀ hN, IsEnum hN (t.heap.objs.size + 1) t.heap.objs.size 0 .none → hN.get? t.heap.objs.size = some oo → (∀ c ob, t.heap.get? c = some ob → hN.get? c = some ob) → Qe (.ref (t.heap.objs.size + 1)) { t with heap := hN }) :
    wpAny (model pg wo) Ar (call (.type "enumerate") [v]) Qe Ex1 t := by
  refine callType_new F.called_enumerate (by decide) (F.typeCall_enumerate_1 _) (F.newCall_enumerate_1 _) (fun ob => F.args_object_init_2 ob _) F.entry_enumerate_new (enumO_new bg) ⟨start, ?_⟩
  have size1 : (t.heap.push oo).objs.size = t.heap.objs.size + 1 := Heap.size_push ..
  have isE : IsEnum ((t.heap.push oo).push { cls := .type "enumerate", data := .fields #[.none, .bool false, .ref t.heap.objs.size, rawInt 0, .none, .none] }) (t.heap.objs.size + 1) t.heap.objs.size 0 .none := by
    have at1 := Heap.get?_push_size (t.heap.push oo) (o := { cls := .type "enumerate", data := .fields #[.none, .bool false, .ref t.heap.objs.size, rawInt 0, .none, .none] }) rfl
    rw [size1] at at1
    exact at1
  show _ ∧ _
  rw [size1]
  exact ⟨⟨_, isE, rfl⟩, goal _ isE (Heap.get?_push_of_some _ (Heap.get?_push_size _ bg.free)) fun c ob z => Heap.get?_push_of_some _ (Heap.get?_push_of_some _ z)⟩
/-- what stands at p, each item in a new pair -/
def ItE (K : PySem.W.Frag) (p : Bool × Addr) : It :=
  ⟨fun i H => ∃ (xs : List V) (x : V), SqK K H p xs ∧ xs[i]? = some x, fun i H v H2 => ∃ T x, v = .ref T ∧ H T = none ∧ H2 = upd H T (.tup [.int (i : Nat), x]) ∧ ∀ xs, SqK K H p xs → xs[i]? = some x, fun i H => ∃ xs : List V, SqK K H p xs ∧ xs.length = i⟩
theorem turn_e {P : Program} {w : World} {K : PySem.W.Frag} {elts : List Expr} {kk : Nat} {tpos : Pos} {en it : Addr} {p : Bool × Addr} (n1 : p.2 ≠ it) (n2 : en ≠ it) (n3 : en ≠ p.2) :
    Turn P w K (.Tuple elts kk tpos) (ItE K p) [en, it] en (fun i h => (∃ old, IsEnum h en it ((i : Nat) : Int) old) ∧ SqIt h it p i) where
  mem := by simp
  obj := fun i h st c hc => by
    obtain ⟨⟨old, ie⟩, si⟩ := st
    have e : c = en ∨ c = it := by simpa using hc
    rcases e with q | q
    · rw [q]; exact ⟨_, ie, fun v q => nomatch q⟩
    · rw [q]; exact si.obj
  keep := fun i h h2 st k => by
    obtain ⟨⟨old, ie⟩, si⟩ := st
    exact ⟨⟨old, k en (by simp) _ ie⟩, si.at fun o q => k it (by simp) o q⟩
  item := by
    intro X hP hw hK hc i pins s σ H E I hf st hg
    subst hP hw hK
    obtain ⟨⟨old, ie⟩, si⟩ := st
    obtain ⟨xs, x, hq, hx⟩ := hg
    obtain ⟨its, rv, sq, _⟩ := sq_seq I hq
    obtain ⟨u, hu, ru⟩ := rv.get hx
    have gu : its.toArray[i]? = some u := by simpa using hu
    have lu : i < its.toArray.size := by
      have := (List.getElem?_eq_some_iff.mp hu).1
      simpa using this
    have enl : en < s.heap.objs.size := Heap.lt_size ie
    have itl : it < s.heap.objs.size := by
      obtain ⟨_, q, _⟩ := si.obj
      exact Heap.lt_size q
    refine PySem.wpAny_pyNext_enum_itemD (draws_of (A := X.A.in1) (I.ok.hd hc) it p n1 its) ie ⟨si, sq⟩ lu n2 (by simp [n2, n3]) fun x1 hA tk hx1 out ⟨si2, _⟩ hT hsz hk => ?_
    obtain rfl : u = x1 := Option.some.inj (gu.symm.trans hx1)
    refine ⟨_, rfl, wpAny_letOwnedTupleGo_enum (s := { s with heap := hA, toks := tk + 1 }) out fun hB isB sb => ?_⟩
    replace sb : Heap.SameBut en hA hB := sb
    have hT2 : hB.get? s.heap.objs.size = some { cls := .type "tuple", data := .seq #[.int i tk, u] } := (sb.2 _ (Nat.ne_of_gt enl)).trans hT
    have made : ObjOk X.prog X.w (upd H s.heap.objs.size (.tup [.int (i : Nat), x])) hB s.heap.objs.size (.tup [.int (i : Nat), x]) := ⟨by show 2 ≤ sizeLine; decide, [.int i tk, u], .cons ⟨_, rfl⟩ (.cons ru .nil), ⟨_, hT2, rfl, _, rfl⟩⟩
    have I1 : Inv X pins σ (upd H s.heap.objs.size (.tup [.int (i : Nat), x])) { s with heap := hB, toks := tk + 1 } :=
      I.turnedNew (t' := tk + 1) (ch := [en, it]) (fun c ob hb q => (sb.2 c (fun z => hb (by simp [z]))).trans (hk c ob (fun z => hb (by simp [z])) (fun z => hb (by simp [z])) q)) hf (Nat.le_refl _) made
    refine ⟨.ref s.heap.objs.size, _, I1, rfl, ⟨_, x, rfl, I.hok.fresh (Nat.le_refl _), rfl, fun ys hy => by rw [sq_inj I hy hq]; exact hx⟩, ⟨⟨u, ?_⟩, si2.at fun o q => (sb.2 it n2.symm).trans q⟩, fun c hcm => ?_⟩
    · have next : ((i + 1 : Nat) : Int) = (i : Int) + 1 := by omega
      rw [next]
      exact isB
    · have small : c < s.heap.objs.size := by
        have e : c = en ∨ c = it := by simpa using hcm
        rcases e with q | q
        · rw [q]; exact enl
        · rw [q]; exact itl
      rw [upd_ne (Nat.ne_of_lt small)]
      exact (hf c hcm).1
  done := by
    intro X hP hw hK hc i pins s σ H E I hf st hg
    subst hP hw hK
    obtain ⟨⟨old, ie⟩, si⟩ := st
    obtain ⟨xs, hq, hx⟩ := hg
    obtain ⟨its, rv, sq, _⟩ := sq_seq I hq
    have li : its.toArray.size = i := by
      have := rv.length
      simp
      omega
    have dr := draws_of (prog := X.prog) (w := X.w) (A := X.A.in1) (I.ok.hd hc) it p n1 its
    rw [li] at dr
    exact PySem.wpAny_pyNext_enum_endD dr ie ⟨si, sq⟩ fun hA eb => ⟨rfl, I.turnedL (t' := s.toks) (ch := [en, it]) (fun c ob hb q => eb c ob (fun z => hb (by simp [z])) q) hf⟩
  self := fun A i s Q E st h => let ⟨⟨_, ie⟩, _⟩ := st; wpAny_pyIter_enum ie h
theorem walk_e {K : PySem.W.Frag} {p : Bool × Addr} {xs : List V} : Walk (ItE K p) xs.length (fun H => SqK K H p xs) (YPair (fun i => some (.int (i : Nat))) (fun i => xs[i]?)) :=
  ⟨fun i _ hi q => ⟨xs, xs[i], q, by simp [hi]⟩, fun _ q => ⟨xs, q, rfl⟩, fun i H v H2 _ q y => by
    obtain ⟨T, x, h1, h2, h3, h4⟩ := y
    exact ⟨T, _, x, h1, h2, h3, rfl, h4 xs q⟩⟩
/-- enumerate(e), e a list or a tuple -/
def iE (K : PySem.W.Frag) (ta : TA) : TI := fun σ H R => ta σ H fun vs H1 => ∃ p : Bool × Addr, vs = [.ref p.2] ∧ (∃ xs, SqK K H1 p xs) ∧ R (ItE K p) H1
theorem pi_e {X : Cx} {e : Expr} {ta : TA} {po pos tpos : Pos} {elts : List Expr} {kk : Nat} (hg : Gl X "enumerate") (hm : X.mg "enumerate" = none) (ha : PA X [e] ta) (hs : starEach [e] X.env = [(false, eval e X.env)] := by rfl) :
    PI X (.Tuple elts kk tpos) (.Call (.Name "enumerate" po) [e] [] pos) (iE X.K ta) := by
  refine ⟨fun pins s σ H R I h => ?_⟩
  refine Call_ (ld_blt I hg hm boot_enumerate (PyProof.Rows.callWith_type1 (thn (ha.run pos pins s σ H _ I h) fun us s0 ⟨vs, H1, I1, r1, q1⟩ => ?_) hs rfl))
  obtain ⟨p, ev, ⟨xs, hq⟩, q1⟩ := q1
  subst ev
  cases r1 with
  | cons r rr =>
    cases rr
    cases r
    obtain ⟨its, rv, sq, lt⟩ := sq_seq I1 hq
    refine enum_of (begins_of p its) sq fun hN ie io kk2 => wpAny_pyIter_enum ie ?_
    have I2 : Inv X pins σ H1 { s0 with heap := hN } := I1.kept (t' := s0.toks) kk2
    refine ⟨s0.heap.objs.size + 1, [s0.heap.objs.size + 1, s0.heap.objs.size], _, _, H1, rfl, I2, turn_e (Nat.ne_of_lt lt) (Nat.succ_ne_self _) (Nat.ne_of_gt (Nat.lt_succ_of_lt lt)), ⟨⟨.none, ie⟩, SqIt.begin io⟩, fun c hc => ?_, q1⟩
    have le : s0.heap.objs.size ≤ c := by
      have e : c = s0.heap.objs.size + 1 ∨ c = s0.heap.objs.size := by simpa using hc
      rcases e with z | z
      · rw [z]; exact Nat.le_add_right _ _
      · rw [z]; exact Nat.le_refl _
    exact I1.fpOk le (I1.hok.fresh le)
end CE

namespace CL
open PySem PySem.Spec PyProof.Rows L2
/-! ### set(l) of a list of ints -/
section
variable {pg : Program} {wo : World} {Ar : Around} {Ee : Value → Shared → Prop} {t : Shared}
set_option maxRecDepth 100000 in
set_option maxHeartbeats 3200000 in
theorem set_of_list {l : Addr} {its : Array Value} (ns : List Int) {Qe : Value → Shared → Prop} (calm : Ar.handled = none) (isl : t.heap.IsList l its) (intsA : IntsAre its.toList ns) (few : ns.length + 1 < scanBound)
    (goal : ∀ (hN : Heap) (k c : Nat), SetR wo hN t.heap.objs.size (fun j => decide (j ∈ ns)) c → c ≤ ns.length → (∀ b ob, t.heap.get? b = some ob → hN.get? b = some ob) → Qe (.ref t.heap.objs.size) { t with heap := hN, toks := k }) :
    wpAny (model pg wo) Ar (call (.type "set") [.ref l]) Qe Ee t := by
  have len : its.size = ns.length := by
    have z := IntsAre.length intsA
    rw [Array.length_toList] at z
    exact z
  obtain ⟨cc, tail, mro⟩ := PySem.F.called_set.mro
  have made := PySem.F.called_set.made
  have sub := PySem.F.called_set.sub
  refine wpAny_call (codeAny_of_tree ?_)
  show wpAny _ _ (callAny (.type "set") _) _ _ _
  refine wpAny_pure ⟨Code.quiet_builtin _ (by decide +kernel), codeAny_builtin PySem.F.entry_type_call ?_⟩
  rw [Around.under_plain (weight_type_call_type "set" [.ref l] []) rfl]
  have noType := PySem.F.called_set.notType
  have creates := PySem.F.called_set.canCreate
  have checked := PySem.F.typeCall_set_1 (.ref l)
  repeat (any_goals (first | assumption | wp_step))
  refine codeAny_mono (code_set_led1 (.ref l) (E := Ee) (Q₁ := fun ob t1 => ob = .ref t.heap.objs.size ∧ t1 = { t with heap := t.heap.push { cls := .type "set", dict := none, data := .set #[] 0 (.fresh 0 0 (!wo.params.followText "set-order")) } }) ⟨rfl, rfl⟩) fun r t1 hr => ?_
  cases r with
  | error e => exact hr
  | ok fl =>
    cases fl with
    | ret ob =>
      obtain ⟨rfl, rfl⟩ := hr
      have hS : (t.heap.push { cls := .type "set", dict := none, data := .set #[] 0 (.fresh 0 0 (!wo.params.followText "set-order")) }).get? t.heap.objs.size = some { cls := .type "set", dict := none, data := .set #[] 0 (.fresh 0 0 (!wo.params.followText "set-order")) } := Heap.get?_push_size _ rfl
      have tS : Shared.TypeIs { t with heap := t.heap.push { cls := .type "set", dict := none, data := .set #[] 0 (.fresh 0 0 (!wo.params.followText "set-order")) } } (.ref t.heap.objs.size) "set" := ⟨_, hS, rfl⟩
      have ini := PySem.F.called_set.init.lookup
      have bnd := PySem.F.called_set.init.bind (.ref t.heap.objs.size)
      repeat (any_goals (first | assumption | wp_step))
      refine codeAny_mono (codeAny_call_builtin (R := wants (fun r t2 => r = .none ∧ ∃ hN k c, t2 = { t with heap := hN, toks := k } ∧ SetR wo hN t.heap.objs.size (fun j => decide (j ∈ ns)) c ∧ c ≤ ns.length ∧
          (∀ b ob, t.heap.get? b = some ob → hN.get? b = some ob)) Ee) PySem.F.called_set.init.plain PySem.F.entry_set_init (check_set_init_1 tS ?_)) fun r2 t2 hr2 => ?_
      · obtain ⟨ol, hol, hcl, nl, hdl⟩ := id isl
        obtain ⟨ocls, odict, odata, oslots⟩ := ol
        simp only at hcl hdl
        subst hcl
        subst hdl
        have hol2 : (t.heap.push { cls := .type "set", dict := none, data := .set #[] 0 (.fresh 0 0 (!wo.params.followText "set-order")) }).get? l = some { cls := .type "list", dict := odict, data := .seq its nl, slots := oslots } := Heap.get?_push_of_some _ hol
        have s1 := PySem.F.sub_list_set
        have s2 := PySem.F.sub_list_frozenset
        have nd : (Value.type "list" == Value.type "dict") = false := by decide
        have isl2 : (t.heap.push { cls := .type "set", dict := none, data := .set #[] 0 (.fresh 0 0 (!wo.params.followText "set-order")) }).IsList l its := ⟨_, hol2, rfl, nl, rfl⟩
        unfold Builtin.«set.__init__» noKeywords Builtin.Frozenset.updateFrom
        generalize hPI : pyIter = PIt
        wp_walk
        subst hPI
        refine wpAny_pyIter_list isl2 ?_
        refine wpAny_bind (wpAny_runValue ?_)
        have lS : l < t.heap.objs.size := Heap.lt_size hol
        have calm3 : Ar.in1.in1.in1.handled = none := by simp [calm]
        have neI : l ≠ (t.heap.push { cls := .type "set", dict := none, data := .set #[] 0 (.fresh 0 0 (!wo.params.followText "set-order")) }).objs.size := by
          rw [Heap.size_push]
          exact Nat.ne_of_lt (Nat.lt_succ_of_lt lS)
        have notF : t.heap.objs.size ∉ [(t.heap.push { cls := .type "set", dict := none, data := .set #[] 0 (.fresh 0 0 (!wo.params.followText "set-order")) }).objs.size, l] := by
          rw [Heap.size_push]
          simp only [List.mem_cons, List.not_mem_nil, or_false, not_or]
          exact ⟨Nat.ne_of_lt (Nat.lt_succ_self _), Nat.ne_of_gt lS⟩
        have vals : ∀ (i : Nat) (v : Value), its[i]? = some v → ∃ k u, ns[i]? = some k ∧ v = .int k u := fun i v hv => by
          have hi : i < ns.length := by
            rw [← len]
            exact (Array.getElem?_eq_some_iff.mp hv).1
          obtain ⟨u, e⟩ := PyProof.Rows.IntsAre.int_at intsA i v (by rw [Array.getElem?_toList]; exact hv)
          refine ⟨ns[i], u, List.getElem?_eq_getElem hi, ?_⟩
          rw [e, List.getD_eq_getElem?_getD, List.getElem?_eq_getElem hi] <;> rfl
        refine set_update_ints ((Walks.list calm3 _ l neI its).toS) t.heap.objs.size notF ns len few vals (its.size - 0) 0 _ (by omega) (Nat.zero_le _) ⟨⟨_, Heap.get?_push_size _ rfl, rfl, rfl⟩, (isl2.push _)⟩ ?first ?last
        case first =>
          exact ⟨0, Nat.le_refl 0, setR_new_at (Heap.get?_push_of_some _ hS)⟩
        case last =>
          intro t3 c3 mv hc3 hS3
          obtain ⟨hN, g3, d3, k3, os3⟩ := t3
          obtain rfl : g3 = t.gens := mv.gens
          obtain rfl : d3 = t.drawn := mv.drawn
          obtain rfl : os3 = t.os := mv.os
          show wpAny _ _ _ _ _ _
          refine wpAny_pure ?_
          show wpAny _ _ (ret Value.none) _ _ _
          rw [len] at hc3
          refine wpAny_pure ⟨rfl, hN, k3, c3, rfl, hS3, hc3, fun b ob e => ?_⟩
          have b0 : b < t.heap.objs.size := Heap.lt_size e
          have b2 : b ≠ (t.heap.push { cls := .type "set", dict := none, data := .set #[] 0 (.fresh 0 0 (!wo.params.followText "set-order")) }).objs.size := by
            rw [Heap.size_push]
            exact Nat.ne_of_lt (Nat.lt_succ_of_lt b0)
          exact mv.heap b ob (by simp only [List.mem_cons, List.not_mem_nil, or_false, not_or]; exact ⟨Nat.ne_of_lt b0, b2⟩) (Heap.get?_push_of_some _ (Heap.get?_push_of_some _ e))
      · cases r2 with
        | error e => exact hr2
        | ok fl2 =>
          cases fl2 with
          | ret r =>
            obtain ⟨rfl, hN, k, c2, rfl, hS2, hc2, hk2⟩ := hr2
            repeat (any_goals (first | assumption | wp_step))
            exact goal _ _ _ hS2 hc2 hk2
          | _ => exact hr2.elim
    | _ => exact hr.elim
end
/-- set(l), l a list of ints -/
def rSetI (K : PySem.W.Frag) (w : World) : List V → Hp → VK → Prop := fun vs H Q => ∃ (a : Addr) (ns : List Int), vs = [V.ref a] ∧ SqL K H a (ns.map V.int) ∧ ns.length + 1 < scanBound ∧ ∀ p c, H p = none → c ≤ ns.length → Q (.ref p) (upd H p (SetO w p (fun j => decide (j ∈ ns)) c))
theorem call_setI {X : Cx} (hc : X.calm = true) : CallR X (.type "set") (rSetI X.K X.w) := by
  intro pins s σ H vs us Q I r h
  obtain ⟨a, ns, rfl, hl, few, q⟩ := h
  rw [Vals.ref1 r]
  obtain ⟨its, rv, pl, _⟩ := I.list hl
  refine set_of_list ns (I.ok.hd hc) pl.isList (by rw [List.toList_toArray]; exact intsAre_of rv) few fun hN k c new hcl keep => ?_
  exact ⟨.ref _, upd H s.heap.objs.size (SetO X.w s.heap.objs.size (fun j => decide (j ∈ ns)) c), I.laid (t' := k) keep (Nat.le_refl _) (setO_new new), rfl, q _ c (I.hok.fresh (Nat.le_refl _)) hcl⟩
end CL

namespace CS
open PySem PySem.Spec PyProof.Rows L2
/-! ### more rules beside the layer's -/
section
variable {X : Cx}
/-- o.f as a target -/
def gFld (K : PySem.W.Frag) (to : TE) (f : Str) : TG := fun v σ H Q => to σ H fun x H1 => ∃ a C dx fs, x = .ref a ∧ H1 a = some (.ins C dx fs) ∧ Cls K C ∧ NoAttr K C f ∧ fs.length < 1000 ∧ Q σ (upd H1 a (.ins C dx (putF f v fs)))
theorem pg_fld {o : Expr} {f : Str} {pos : Pos} {to : TE} (ho : PE X o to) : PG X (.Attribute o f pos) (gFld X.K to f) := by
  refine ⟨fun pins s σ H v u Q I r h => ?_⟩
  rw [assign_Attribute]
  refine wpAny_bind (wpAny_holding (thn (ho.run pins s σ H _ I h) fun ov s1 ⟨x, H1, I1, r1, a, C, dx, fs, ex, ea, c, n, l, q⟩ => ?_))
  subst ex
  obtain rfl : ov = Value.ref a := r1
  refine wpAny_bind (wpAny_standAt (wpAny_bind (wpAny_holding (setattr_ok I1 ea c n l r fun s3 I3 => ?_))))
  exact wpAny_release ⟨σ, _, I3, q⟩
theorem pe_fldK {e : Expr} {f : Str} {pos : Pos} {ta : TE} (K : PySem.W.Frag) (hk : X.K = K) (he : PE X e ta) (hb : attributeBase e f X.env (eval e X.env) = eval e X.env) : PE X (.Attribute e f pos) (tFld K ta f) := by
  subst hk
  exact pe_fld he hb
def rLenQ (K : PySem.W.Frag) : List V → Hp → VK → Prop := fun xs H Q => ∃ p ys, xs = [.ref p] ∧ (SqL K H p ys ∨ SqT K H p ys) ∧ Q (.int ys.length) H
def rListQ (K : PySem.W.Frag) : List V → Hp → VK → Prop := fun xs H Q => ∃ p ys, xs = [.ref p] ∧ (SqL K H p ys ∨ SqT K H p ys) ∧ ∀ l, H l = none → Q (.ref l) (upd H l (.lst ys))
def rTupleQ (K : PySem.W.Frag) : List V → Hp → VK → Prop := fun xs H Q => ∃ p ys, xs = [.ref p] ∧ ((SqL K H p ys ∧ ∀ l, H l = none → Q (.ref l) (upd H l (.tup ys))) ∨ (SqT K H p ys ∧ Q (.ref p) H))
/-- // by a divisor of either sign -/
def CDivNW (_ j : Int) : Prop := j ≠ 0 ∧ j.natAbs.log2 < 9000
theorem op_fdivNW : OpR X (binaryOp .FloorDiv) (rI CDivNW fun i j => .int (i.fdiv j)) := opI fun _ _ _ _ _ _ _ hc q => floordiv_int hc.1 q (.inl (PyProof.noPylong_of_log2 hc.2))
theorem wide_divN {i j : Int} {b : Nat} (h : j ≠ 0) (hb : j.natAbs < 2 ^ b) (h0 : 0 < b) (h9 : b ≤ 9000) : CDivNW i j := ⟨h, Nat.lt_of_lt_of_le (PySem.Flt.log2_lt_of h0 hb) h9⟩
theorem kit_self {K : PySem.W.Frag} {C : Addr} : PySem.W.kitOne K (.ref C) (.ref C) = some true := by
  unfold PySem.W.kitOne
  rw [if_pos (by simp)]
theorem pe_revLK {e : Expr} {te : TE} {k : Nat} {p1 p2 p3 pos : Pos} (K : PySem.W.Frag) (hk : X.K = K) (he : PE X e te) : PE X (.Subscript e (.Slice none none (some (.UnaryOp .USub (.Constant (.int 1) k p1) p2)) p3) pos) (tRevL K te) := by
  subst hk
  exact pe_revL he
/-- x in s, a list or a tuple of data -/
def rInQ (K : PySem.W.Frag) : R2 := fun x y H Q => ∃ d ds, Dp K H x d ∧ (Dp K H y (.list ds) ∨ Dp K H y (.tuple ds)) ∧ SeqAt.shaped d = true ∧ SeqAt.shaped (.list ds) = true ∧ Q (.bl (ds.any fun z => PyData.eqv z d)) H
def rNotInQ (K : PySem.W.Frag) : R2 := fun x y H Q => ∃ d ds, Dp K H x d ∧ (Dp K H y (.list ds) ∨ Dp K H y (.tuple ds)) ∧ SeqAt.shaped d = true ∧ SeqAt.shaped (.list ds) = true ∧ Q (.bl (!ds.any fun z => PyData.eqv z d)) H
theorem op_inQ (hu : X.A.units + 65 < cLine) : OpR X (compareOp .In) (rInQ X.K) := by
  intro pins s σ H x y v u Q I rx ry h
  obtain ⟨d, ds, hd, he, sd, se, q⟩ := h
  obtain ⟨as, r1⟩ := Dp.reads I d x v hd rx
  rcases he with he | he
  · obtain ⟨bs, r2⟩ := Dp.reads I (.list ds) y u he ry
    exact SeqAt.in_list_reads r2 r1 (SeqAt.canLay_of_shaped se) (SeqAt.canLay_of_shaped sd) (room_in_shaped sd hu) ⟨.bl _, H, I, rfl, q⟩
  · obtain ⟨bs, r2⟩ := Dp.reads I (.tuple ds) y u he ry
    exact SeqAt.in_tuple_reads r2 r1 (SeqAt.canLay_of_shaped se) (SeqAt.canLay_of_shaped sd) (room_in_shaped sd hu) ⟨.bl _, H, I, rfl, q⟩
theorem op_notInQ (hu : X.A.units + 65 < cLine) : OpR X (compareOp .NotIn) (rNotInQ X.K) := by
  intro pins s σ H x y v u Q I rx ry h
  obtain ⟨d, ds, hd, he, sd, se, q⟩ := h
  obtain ⟨as, r1⟩ := Dp.reads I d x v hd rx
  rcases he with he | he
  · obtain ⟨bs, r2⟩ := Dp.reads I (.list ds) y u he ry
    exact SeqAt.notIn_list_reads r2 r1 (SeqAt.canLay_of_shaped se) (SeqAt.canLay_of_shaped sd) (room_in_shaped sd hu) ⟨.bl _, H, I, rfl, q⟩
  · obtain ⟨bs, r2⟩ := Dp.reads I (.tuple ds) y u he ry
    exact SeqAt.notIn_tuple_reads r2 r1 (SeqAt.canLay_of_shaped se) (SeqAt.canLay_of_shaped sd) (room_in_shaped sd hu) ⟨.bl _, H, I, rfl, q⟩
end
end CS

/-! ### promises for callers that print nothing yet, and repr -/
namespace CG
open PySem PySem.Spec PyProof.Rows L2
/-- a promise that is kept where nothing is being printed -/
structure FnOkG (P : Program) (w : World) (K : PySem.W.Frag) (mg : Str → Option Value) (base : Heap) (k : Nat) (f : Addr) (fd : FuncData) (ps : List Str) (sp : Sp) : Prop where
  size : ∀ vs H Q E, sp vs H Q E → vs.length = ps.length
  go : ∀ (A : Around) (fr : List Env) (s : Shared) (H : Hp) (as : Args) (us : List Value) (vs : List V) (Q : VK) (E : XK), A.guards = some [] → Room k A → Env0 P w K mg base A fr s H → BindsTo s fd as (ps.zip us) → Vals vs us → sp vs H Q E →
    codeAny (model P w) A (.call (.ref f) as) (CR CX0 fr P w H s Q E) s
theorem FnOkG.of {P : Program} {w : World} {K : PySem.W.Frag} {mg : Str → Option Value} {base : Heap} {k : Nat} {f : Addr} {fd : FuncData} {ps : List Str} {sp : Sp} (F : FnOk P w K mg base CX0 k f fd ps sp) : FnOkG P w K mg base k f fd ps sp :=
  ⟨F.len, fun A fr s H as us vs Q E _ => F.run A fr s H as us vs Q E⟩
section
variable {P : Program} {w : World} {K : PySem.W.Frag} {mg : Str → Option Value} {base : Heap}
/-- a def by its body, where nothing is being printed -/
theorem okG {x qual : Str} {st : Stmt} {f : Addr} {fd : FuncData} {N ps : List Str} {k : Nat} {sp : Sp} (F : Fun K x qual st f fd) (S : FnScope N ps (defScope st)) (len : ∀ vs H Q E, sp vs H Q E → vs.length = ps.length)
    (body : ∀ (cdv : Value) (A : Around) (fr : List Env) (s : Shared) (H : Hp) (vs : List V) (Q : VK) (E : XK), A.guards = some [] → Room k (A.deeper (envOfC qual (defScope st) s.heap.objs.size f cdv)) → sp vs H Q E →
      ∃ t, PSs (cxOf CX0 P w K mg base N qual (defScope st) f cdv A fr s H E).nox (defBody st) t ∧ t { nx := fun _ H' => Q .non H', rt := Q } (start N vs) H) : FnOkG P w K mg base (k + 1) f fd ps sp := by
  obtain ⟨o1, o2, d1, d2, d3, o3, cd, ct, o4, rfl, look, code⟩ := F.ex
  refine ⟨len, fun A fr s H as us vs Q E gd room en bind rel want => ?_⟩
  have kin : K.In s.heap := en.mod.kin.keeps fun b o e => (en.bs b o e).1
  have nolim : s.heap.NoLimit := en.mod.nolimit.keeps fun b o e => (en.bs b o e).1
  have kinds : ∀ y ∈ ps.zip us, (defScope st).names.lookup y.1 = some .local ∨ ((defScope st).names.lookup y.1 = some .cell ∧ ((cellsFrom (s.heap.objs.size + 1) (defScope st).names []).lookup y.1).isSome = true) := fun ⟨n, v⟩ hy =>
    (S.par n (List.of_mem_zip hy).1).imp id fun q => ⟨q, PySem.W.cellsFrom_some _ _ _ (.inl q)⟩
  refine codeAny_call_function room.depth (kin _ _ look) rfl S.co S.gen rfl (PySem.W.codeRec_of kin code) (bind _ _ _ _ ?_)
  refine wpAny_newFunctionEnv_cells S.kind kinds fun env isEnv s1 entry => ?_
  subst isEnv
  refine ⟨nolim.keeps entry.toInCall.keep, codeAny_func ?_⟩
  obtain ⟨t, rule, reading⟩ := body cd A fr s H vs Q E gd (room.deeper _) want
  have start1 : Inv (cxOf CX0 P w K mg base N qual (defScope st) f cd A fr s H E) [] (start N vs) H s1 := inv_start S room.hd en (len _ _ _ _ want) rel entry
  refine wpAny_mono (rule.nox.run [] s1 (start N vs) H _ start1 reading) (fun fl s' out => ?_) fun e s' out => out
  have close : ∀ {τ : L2.St} {H' : Hp} {v : V} {u : Value}, Inv (cxOf CX0 P w K mg base N qual (defScope st) f cd A fr s H E) [] τ H' s' → RelV v u → Q v H' → CE fr P w H s Q u s' :=
    fun {τ H' v u} J rv q => ⟨v, H', J.os, J.bare, J.base, J.hok, rv, q⟩
  match fl, out with
  | .ret u, ⟨_, _, _, J, rv, q⟩ => exact close J rv q
  | .next, ⟨_, _, J, q⟩ => exact close (v := V.non) (u := Value.none) J rfl q
  | .brk, ⟨_, _, _, q⟩ => exact q.elim
  | .cont, ⟨_, _, _, q⟩ => exact q.elim
end
section
variable {X : Cx} {k : Nat} {f : Addr} {fd : FuncData} {ps : List Str} {sp : Sp} {dvs : List V} {ds : List Value} {E : XK} {x : Str} {p pos : Pos} {e : Expr} {es : List Expr} {t : TA}
theorem goG {pins : List (Addr × Obj)} {σ : L2.St} {H : Hp} {s : Shared} {Q : VK} {us : List Value} {vs : List V} (F : FnOkG X.prog X.w X.K X.mg X.base k f fd ps sp) (gd : X.A.guards = some []) (room : Room k X.A) (bind : Binds X.K fd ps ds) (hd : Vals dvs ds) (pass : Passes CX0 X E)
    (I : Inv X pins σ H s) (rel : Vals vs us) (want : sp (vs ++ dvs) H Q E) : wpAny (model X.prog X.w) X.A (call (.ref f) us) (EP X pins σ Q) X.xe s := by
  have both : Vals (vs ++ dvs) (us ++ ds) := rel.append hd
  have size : (us ++ ds).length = ps.length := both.length.symm.trans (F.size _ _ _ _ want)
  refine wpAny_call (codeAny_mono (F.go X.A X.stack s H ⟨us, []⟩ (us ++ ds) (vs ++ dvs) Q E gd room I.env0 (bind s us I.kIn size) both want) fun out s' q => ?_)
  match out, q with
  | .error err, q => exact pass pins σ H s err s' I q
  | .ok (.ret u), q => exact I.after q
/-- the call of a def that wants nothing to be printed -/
theorem pe_callG (F : FnOkG X.prog X.w X.K X.mg X.base k f fd ps sp) (gd : X.A.guards = some []) (room : Room k X.A) (hg : Gl X x) (hm : X.mg x = some (.ref f)) (hk : PySem.W.keepIn X.K (.ref f) = true) (bind : Binds X.K fd ps ds) (hd : Vals dvs ds) (pass : Passes CX0 X E)
    (args : PA X (e :: es) t) (hdb : (x == ("__debug__" : Str)) = false := by decide) (he : starEach (e :: es) X.env = (false, eval e X.env) :: starEach es X.env := by rfl) (hpl : (backTo pos (starEach es X.env)).any (·.1) = false := by rfl) :
    PE X (.Call (.Name x p) (e :: es) [] pos) (tCall sp dvs E t) :=
  ⟨fun pins s σ H Q I h => wpAny_Call_Name_kw (ld_glob I hg hm (PySem.W.callWith_K (h₀ := X.base) I.ok.mod.kin hk (thn (args.run pos pins s σ H _ I h) fun us s1 ⟨vs, H1, I1, r, q⟩ => ⟨I1.kIn, goG F gd room bind hd pass I1 r q⟩) he hpl) hdb)⟩
/-- repr(x) of data that are known -/
def rRepr (K : PySem.W.Frag) : List V → Hp → VK → Prop := fun vs H Q => ∃ (a : Addr) (d : PyData), vs = [V.ref a] ∧ Dp K H (.ref a) d ∧ d.showable = true ∧ d.hasDict = false ∧ d.shown.length ≤ sizeLine ∧ d.depth ≤ 60 ∧ Q (.str d.shown) H
theorem cr_repr (gd : X.A.guards = some []) (hu : X.A.units + 65 < cLine) : CallR X (.builtin "repr") (rRepr X.K) := by
  intro pins s σ H vs us Q I r h
  obtain ⟨a, d, rfl, hd, sh, nd, lz, dp, q⟩ := h
  rw [Vals.ref1 r]
  obtain ⟨as, rd⟩ := Dp.reads I _ (.ref a) _ hd rfl
  refine repr_of_reads' rd sh (fun z => absurd (nd.symm.trans z) (by decide)) gd (by omega) (fun _ _ e => e) (fun h' u tk hk => ?_) lz
  exact ⟨.str d.shown, H, I.kept (t' := tk) hk, ⟨_, rfl⟩, q⟩
end
/-- the law at its script, from a promise of that kind -/
theorem law_callG {P : Program} {w : World} {K : PySem.W.Frag} {mg mb : Str → Option Value} {k : Nat} {fa a : Addr} {fd : FuncData} {x : Str} {sp : Sp} {s₁ : Shared} {us : List Value} {ms : List Int}
    (inK : K.In s₁.heap) (g1 : s₁.heap.Ns mainGlobals mg) (g2 : s₁.heap.Ns builtinsNs mb) (g3 : ∀ x : Str, x ≠ "__name__" → mb x = bootBuiltins x) (g4 : s₁.heap.NoLimit) (g5 : s₁.gens = #[])
    (at_a : s₁.heap.get? a = some { cls := .type "list", data := .seq us.toArray }) (are : IntsAre us ms) (short : ms.length ≤ sizeLine) (room : Room k callerA)
    (F : ∀ base : Heap, K.In base → base.Ns mainGlobals mg → FnOkG P w K mg base k fa fd [x] sp) (bind : ∀ (s : Shared) (u : Value), BindsTo s fd ⟨[u], []⟩ [(x, u)])
    (want : ∀ H : Hp, Only H → SqL K H a (ms.map V.int) → sp [.ref a] H (fun v _ => v = .bl true) fun _ _ _ => False) :
    codeAny (model P w) callerA (.call (.ref fa) ⟨[.ref a], []⟩) (fun r s' => r = .ok (.ret (.bool true)) ∧ OldK s₁.heap s'.heap ∧ s'.os = s₁.os ∧ AllBare s'.gens) s₁ := by
  have vals := vals_ints are
  have many := are.length
  have main : ∀ H : Hp, Only H → SqL K H a (ms.map V.int) → HOk P w H s₁.heap → (∀ b, H b ≠ none → b = a) → (H a ≠ none → K.lookup a = none) →
      codeAny (model P w) callerA (.call (.ref fa) ⟨[.ref a], []⟩) (fun r s' => r = .ok (.ret (.bool true)) ∧ OldK s₁.heap s'.heap ∧ s'.os = s₁.os ∧ AllBare s'.gens) s₁ := by
    intro H only seq hok just out
    have hid : ∀ {b : Addr} {o : Obj} {es : Array DictEntry} {n : Nat}, s₁.heap.get? b = some o → o.data = .dict es n → H b = none := fun {b o es n} e d => Classical.byContradiction fun z => by
      rw [just b z, at_a] at e
      obtain rfl := Option.some.inj e
      exact absurd (show Data.seq us.toArray _ = Data.dict es n from d) (fun z => nomatch z)
    have names : ∀ {b : Addr} {m : Str → Option Value}, s₁.heap.Ns b m → (hidT s₁.heap H).Ns b m := fun {b m} ⟨o, es, n, e, d, r⟩ => ⟨o, es, n, hidT_get e (hid e d), d, r⟩
    have inB : K.In (hidT s₁.heap H) := fun b o e => hidT_get (inK b o e) (Classical.byContradiction fun z => by
      have ba := just b z
      rw [ba] at z e
      rw [out z] at e
      exact absurd e (fun z => nomatch z))
    have known : Mod K mg (hidT s₁.heap H) := ⟨inB, names g1, ⟨mb, names g2, g3⟩, g4.elim fun mc z => ⟨mc, names z.1, z.2⟩⟩
    have entry : Env0 P w K mg (hidT s₁.heap H) callerA [] s₁ H := ⟨rfl, known, fun b o e => of_hidT e, Nat.le_of_eq (hidT_size _ _), trivial, fun b z => (List.not_mem_nil z).elim, hok, .of_eq g5⟩
    refine codeAny_mono ((F _ inB (names g1)).go callerA [] s₁ H ⟨[.ref a], []⟩ [.ref a] [.ref a] _ _ rfl room entry (bind s₁ (.ref a)) (.cons rfl .nil) (want H only seq)) fun r s' h => ?_
    match r, h with
    | .ok (.ret u), ⟨v, H', os, bare, un, hok', rel, (q : v = .bl true)⟩ =>
      subst q
      obtain rfl : u = Value.bool true := rel
      refine ⟨rfl, OldK.of_keep fun b o e => ?_, os, bare⟩
      rcases only b with z | ⟨ob, xs, z⟩
      · exact un.keep b o e z (fun m => (List.not_mem_nil m).elim) (by simp)
      · have e1 := (hok b _ z).1
        have e2 := (hok' b _ (un.frzs b ob _ z)).1
        rw [e] at e1
        rw [Option.some.inj e1]
        exact e2
  cases look : K.lookup a with
  | some o =>
    obtain rfl := Option.some.inj (at_a.symm.trans (inK a o look))
    exact main (fun _ => none) (fun _ => .inl rfl) (.inr ⟨_, us.toArray, _, look, rfl, rfl, rfl, by simpa [many] using short, by simpa using vals⟩) (fun b u z => (nomatch (show (none : Option HO) = some u from z))) (fun b z => (z rfl).elim) fun z => (z rfl).elim
  | none =>
    let O : Obj := { cls := .type "list", data := .seq us.toArray }
    let G : Hp := fun b => if b = a then some (.frz O (.lst (ms.map V.int))) else none
    have gA : G a = some (.frz O (.lst (ms.map V.int))) := if_pos rfl
    have gN : ∀ b, b ≠ a → G b = none := fun b n => if_neg n
    refine main G (fun b => ?_) (.inl (.inr ⟨O, gA⟩)) (fun b u z => ?_) (fun b z => Classical.byContradiction fun n => z (gN b n)) fun _ => look
    · rcases Decidable.em (b = a) with rfl | n
      · exact .inr ⟨_, _, gA⟩
      · exact .inl (gN b n)
    · rcases Decidable.em (b = a) with rfl | n
      · obtain rfl := Option.some.inj (gA.symm.trans z)
        exact ⟨at_a, by rw [List.length_map]; exact short, us, _, vals, at_a⟩
      · exact absurd (gN b n) (by rw [z]; exact fun e => nomatch e)
/-- a law's end, from a promise of that kind -/
theorem walk_ofG {l : PySem.W.OpenLaw} {n k : Nat} {q : Program} {loose : List Str} {XP : (Str → Option Value) → Heap → Prop} {YP : World → Heap → Prop} {d : DefRec} {x : Str}
    (most : l.most = some n) (small : n ≤ sizeLine) (plain : d.params.defaults = []) (room : Room k callerA)
    (F : ∀ (w : World) (mg : Str → Option Value) (fa : Addr) (h : Heap), YP w h → h.Ns mainGlobals mg → mg d.name = some (.ref fa) →
      ∃ (K : PySem.W.Frag) (fd : FuncData) (sp : Sp), K.In h ∧ (∀ (s : Shared) (u : Value), BindsTo s fd ⟨[u], []⟩ [(x, u)]) ∧
        (∀ (H : Hp) (a : Addr) (ms : List Int), ms.length ≤ n → Only H → SqL K H a (ms.map V.int) → sp [.ref a] H (fun v _ => v = .bl true) fun _ _ _ => False) ∧
        ∀ base : Heap, K.In base → base.Ns mainGlobals mg → FnOkG l.prog w K mg base k fa fd [x] sp) :
    PySem.W.WalkO q loose XP YP l.row.toRowW d [] (fun f vs => PySem.call f vs) :=
  Att.attach_call most plain fun w s₀ s₁ mg mb fa o pm cd doc a us ms G Y ho hd hcd named at_a are len gens => by
    obtain ⟨K, fd, sp, inK, bind, want, prom⟩ := F w mg fa _ Y G.T.g named
    exact law_callG inK G.T.g G.T.b G.T.builtins G.T.nolimit gens at_a are (Nat.le_trans len small) room prom bind fun H only seq => want H a ms len only seq
end CG

/-! ### repr of data that may be None -/
namespace CG
open PySem PySem.Spec PyProof.Rows L2
section
variable {X : Cx}
def rReprN (K : PySem.W.Frag) : List V → Hp → VK → Prop := fun vs H Q => ∃ (x : V) (d : PyData), vs = [x] ∧ (x = .non ∨ ∃ a, x = .ref a) ∧ Dp K H x d ∧ d.showable = true ∧ d.hasDict = false ∧ d.shown.length ≤ sizeLine ∧ d.depth ≤ 60 ∧ Q (.str d.shown) H
theorem cr_reprN (gd : X.A.guards = some []) (hu : X.A.units + 65 < cLine) : CallR X (.builtin "repr") (rReprN X.K) := by
  intro pins s σ H vs us Q I r h
  obtain ⟨x, d, rfl, c, hd, sh, nd, lz, dp, q⟩ := h
  rcases c with rfl | ⟨a, rfl⟩
  · cases hd
    obtain ⟨u, rfl, rfl⟩ := vals1 r
    exact PySem.P.repr_of_none ⟨.str _, H, I.tok _, ⟨_, rfl⟩, q⟩
  · exact cr_repr gd hu pins s σ H _ us Q I r ⟨a, d, rfl, hd, sh, nd, lz, dp, q⟩
end
end CG

/-! ### repr of data that may hold empty dicts -/
namespace CG
open PySem PySem.Spec PyProof.Rows L2
mutual
/-- data, empty dicts among them -/
inductive De (K : PySem.W.Frag) (H : Hp) : V → PyData → Prop
  | non : De K H .non .none
  | bl (b : Bool) : De K H (.bl b) (.bool b)
  | int (i : Int) : De K H (.int i) (.int i)
  | str (x : Str) : De K H (.str x) (.str x)
  | lst {a : Addr} {xs : List V} {ds : List PyData} : SqL K H a xs → DeAll K H xs ds → De K H (.ref a) (.list ds)
  | tup {a : Addr} {xs : List V} {ds : List PyData} : SqT K H a xs → DeAll K H xs ds → De K H (.ref a) (.tuple ds)
  | emp {a : Addr} : H a = some (.dK []) → De K H (.ref a) (.dict [])
inductive DeAll (K : PySem.W.Frag) (H : Hp) : List V → List PyData → Prop
  | nil : DeAll K H [] []
  | cons {v : V} {vs : List V} {d : PyData} {ds : List PyData} : De K H v d → DeAll K H vs ds → DeAll K H (v :: vs) (d :: ds)
end
section
variable {X : Cx} {pins : List (Addr × Obj)} {σ : L2.St} {H : Hp} {s : Shared}
theorem sys_not {a : Addr} {o : Obj} (I : Inv X pins σ H s) (sd : PySem.W.typeIn X.K (.ref sysModules) = some (.type "dict")) (ho : s.heap.get? a = some o) (hc : o.cls = .type "list") : a ≠ sysModules := fun z => by
  obtain ⟨o2, h2, e2⟩ := Option.map_eq_some_iff.mp sd
  have h3 := I.kIn _ _ h2
  rw [z, h3] at ho
  obtain rfl := Option.some.inj ho
  rw [e2] at hc
  exact absurd hc (by decide)
/-- no list stands where sys.modules does -/
def NoSys (h : Heap) : Prop := ∀ (a : Addr) (o : Obj) (its : Array Value) (n : Nat), h.get? a = some o → o.cls = .type "list" → o.data = .seq its n → a ≠ sysModules
mutual
theorem De.reads (I : Inv X pins σ H s) (nl : NoSys s.heap) : ∀ (d : PyData) (v : V) (u : Value), De X.K H v d → RelV v u → ∃ as, Reads s.heap u d as ∧ sysModules ∉ as
  | .none, _, _, h, r => by
    cases h
    cases r
    exact ⟨_, Reads.none, List.not_mem_nil⟩
  | .bool b, _, _, h, r => by
    cases h
    cases r
    exact ⟨_, Reads.bool b, List.not_mem_nil⟩
  | .int i, _, _, h, r => by
    cases h
    obtain ⟨t, rfl⟩ := r
    exact ⟨_, Reads.int i t, List.not_mem_nil⟩
  | .str x, _, _, h, r => by
    cases h
    obtain ⟨t, rfl⟩ := r
    exact ⟨_, Reads.str x t, List.not_mem_nil⟩
  | .list ds, _, _, h, r => by
    cases h with
    | lst hs ha =>
      cases r
      obtain ⟨its, rv, ⟨o, n, ho, hc, _, hd⟩, _⟩ := I.list hs
      obtain ⟨as, hr, hn⟩ := De.readsAll I nl ds _ its ha rv
      exact ⟨_, Reads.list ho hc hd hr, fun z => by
        rcases List.mem_cons.mp z with z | z
        · exact nl _ _ _ _ ho hc hd z.symm
        · exact hn z⟩
  | .tuple ds, _, _, h, r => by
    cases h with
    | tup hs ha =>
      cases r
      obtain ⟨its, rv, ⟨o, ho, hc, n, hd⟩, _⟩ := I.tuple hs
      obtain ⟨as, hr, hn⟩ := De.readsAll I nl ds _ its ha rv
      exact ⟨_, Reads.tuple ho hc hd hr, hn⟩
  | .dict kvs, _, _, h, r => by
    cases h with
    | @emp a he =>
      cases r
      obtain ⟨_, hm, vs, rv, dd⟩ := dk_of I.hok he
      cases rv
      obtain ⟨o, es, n, ho, hx, hd, _, hp, _⟩ := dd
      have e0 : es.toList = [] := by
        cases h : es.toList with
        | nil => rfl
        | cons e t =>
          rw [h] at hp
          cases hp
      have hs : sysModules ∉ a :: ([] : List Addr) ++ [] := fun z => by
        have z2 : sysModules = a := by simpa using z
        rw [← z2] at hm
        simp at hm
      exact ⟨_, Reads.dict (kvs := []) ho hx.1 hd (by rw [e0]; exact .nil) (by rw [e0]; exact .nil), hs⟩
theorem De.readsAll (I : Inv X pins σ H s) (nl : NoSys s.heap) : ∀ (ds : List PyData) (vs : List V) (us : List Value), DeAll X.K H vs ds → Vals vs us → ∃ as, ReadsAll s.heap us ds as ∧ sysModules ∉ as
  | [], _, _, h, r => by
    cases h
    cases r
    exact ⟨_, ReadsAll.nil, List.not_mem_nil⟩
  | d :: ds, _, _, h, r => by
    cases h with
    | cons h1 h2 =>
      cases r with
      | cons r1 r2 =>
        obtain ⟨as, q1, n1⟩ := De.reads I nl d _ _ h1 r1
        obtain ⟨bs, q2, n2⟩ := De.readsAll I nl ds _ _ h2 r2
        exact ⟨_, ReadsAll.cons q1 q2, fun z => (List.mem_append.mp z).elim n1 n2⟩
end
/-- repr(x) -/
def rReprE (K : PySem.W.Frag) : List V → Hp → VK → Prop := fun vs H Q => ∃ (a : Addr) (d : PyData), vs = [V.ref a] ∧ De K H (.ref a) d ∧ d.showable = true ∧ d.shown.length ≤ sizeLine ∧ d.depth ≤ 60 ∧ Q (.str d.shown) H
theorem cr_reprNS (nl : ∀ pins σ H s, Inv X pins σ H s → NoSys s.heap) (gd : X.A.guards = some []) (hu : X.A.units + 65 < cLine) : CallR X (.builtin "repr") (rReprE X.K) := by
  intro pins s σ H vs us Q I r h
  obtain ⟨a, d, rfl, hd, sh, lz, dp, q⟩ := h
  rw [Vals.ref1 r]
  obtain ⟨as, rd, ns⟩ := De.reads I (nl _ _ _ _ I) _ (.ref a) _ hd rfl
  refine repr_of_reads' rd sh (fun _ => ns) gd (by omega) (fun _ _ e => e) (fun h' u tk hk => ?_) lz
  exact ⟨.str d.shown, H, I.kept (t' := tk) hk, ⟨_, rfl⟩, q⟩
theorem cr_reprE (sd : PySem.W.typeIn X.K (.ref sysModules) = some (.type "dict")) (gd : X.A.guards = some []) (hu : X.A.units + 65 < cLine) : CallR X (.builtin "repr") (rReprE X.K) := cr_reprNS (fun _ _ _ _ I _ _ _ _ ho hc _ => sys_not I sd ho hc) gd hu
end
end CG

namespace CG
-- kexcis
open PySem PySem.Spec PyProof.Rows L2
/-! ### isinstance(e, (X, Y)), e the exception that the suite holds -/
/-- what the class D must say -/
structure ExcI (K : PySem.W.Frag) (D : Addr) : Prop where
  hl : (PySem.W.clsIn K D).isSome = true
  hg : PySem.W.findIn K (.ref D) "__getattribute__" = some (some (.builtin "BaseException.__getattribute__"))
  hk : PySem.W.findIn K (.ref D) "__getattr__" = some none
  hs : PySem.W.subIn K (.ref D) (.type "BaseException") = some true
  ha : PySem.W.findIn K (.ref D) "__class__" = some (some (.builtin "object.__class__"))
  hn : PySem.W.specialIn K (.builtin "object.__class__") "__get__" = some (some (.builtin "getset_descriptor.__get__"))
  ht : PySem.W.takesIn K (.builtin "object.__class__") = some true
  hm : PySem.W.mroIn K D (.type "object") = some true
def rIsET (K : PySem.W.Frag) (cls : Value) (d : Option Addr) (D a : Addr) : List V → Hp → VK → Prop := fun xs H Q => ∃ (tp : Addr) (cs : List V) (us : List Value) (b : Bool), xs = [.ref a, .ref tp] ∧ cls = .ref D ∧ H tp = some (.tup cs) ∧ Paired ClsV cs us ∧ (∃ (dd : Addr) (fs : List (Str × V)), d = some dd ∧ H dd = some (.xd fs)) ∧ PySem.W.kitAny K (.ref D) us = some b ∧ Q (.bl b) H
theorem call_isET {X : Cx} {a D : Addr} {oe : Obj} {cls : Value} {d : Option Addr} {pn : List (Addr × Obj)} (C : ExcI X.K D) (hz : Zc cls d oe) (hf : ∃ vs, oe.data = .fields vs) : CallR (X.suite a ((a, oe) :: pn)) (.builtin "isinstance") (rIsET X.K cls d D a) := by
  intro pins s σ H xs us Q I r h
  obtain ⟨tp, cs, ws, b, rfl, ec, hT, k, ⟨dd, fs, ed, hdd⟩, e, q⟩ := h
  obtain ⟨u1, u2, rfl, r1, r2⟩ := vals2 r
  obtain rfl : u1 = Value.ref a := r1
  obtain rfl : u2 = Value.ref tp := r2
  subst ec
  subst ed
  obtain ⟨hget, _⟩ := I.pin (a, oe) (List.mem_append.mpr (.inl List.mem_cons_self))
  obtain ⟨vs, hv⟩ := hf
  have hx : ObjOk X.prog X.w H s.heap dd (.xd fs) := I.hok dd _ hdd
  obtain ⟨mA, ⟨od, hod⟩, _⟩ := (show ∃ mA, (∃ o, s.heap.get? dd = some o) ∧ True by
    obtain ⟨mA, ⟨o, es, n, h1, _⟩, _⟩ := hx
    exact ⟨mA, ⟨o, h1⟩, trivial⟩)
  have J : PySem.W.InstAt s.heap a oe D (some od) := by
    obtain ⟨oc, odi, oda, osl⟩ := oe
    obtain ⟨h1, h2⟩ := hz
    dsimp only at h1 h2 hv
    subst h1 h2 hv
    exact ⟨hget, rfl, rfl, hod⟩
  obtain ⟨_, its, rv, o, h1, h2, n, h3⟩ := (show ObjOk X.prog X.w H s.heap tp (.tup cs) from I.hok tp _ hT)
  have e3 := ClsV.all k rv
  subst e3
  obtain ⟨oc, od2, dt, sl⟩ := o
  simp only at h2 h3
  subst h2 h3
  exact PySem.W.kia_tup (PySem.W.kitx_exc C.hl C.hg C.hk C.hs C.ha C.hn C.ht C.hm) I.kIn J h1 e (fun z => nomatch z) fun tk => ⟨.bl b, H, I.tok tk, rfl, q⟩
end CG

/-! ### repr of any data -/
namespace CG
open PySem PySem.Spec PyProof.Rows L2
section
variable {X : Cx}
def rReprA (K : PySem.W.Frag) : List V → Hp → VK → Prop := fun vs H Q => ∃ (x : V) (d : PyData), vs = [x] ∧ De K H x d ∧ d.showable = true ∧ d.shown.length ≤ sizeLine ∧ d.depth ≤ 60 ∧ Q (.str d.shown) H
/-- sys.modules is a dict, from the base -/
def SysB (base : Heap) : Prop := ∃ m, base.Ns sysModules m
theorem cr_reprG (nl : ∀ pins σ H s, Inv X pins σ H s → NoSys s.heap) (gd : X.A.guards = some []) (hu : X.A.units + 65 < cLine) : CallR X (.builtin "repr") (rReprA X.K) := by
  intro pins s σ H vs us Q I r h
  obtain ⟨x, d, rfl, hd, sh, lz, dp, q⟩ := h
  have ref : ∀ a, x = .ref a → wpAny (model X.prog X.w) X.A (call (.builtin "repr") us) (EP X pins σ Q) X.xe s := fun a e => by
    subst e
    exact cr_reprNS nl gd hu pins s σ H _ us Q I r ⟨a, d, rfl, hd, sh, lz, dp, q⟩
  obtain ⟨u, rfl, ru⟩ := vals1 r
  cases hd with
  | non =>
    obtain rfl : u = Value.none := ru
    exact PySem.P.repr_of_none ⟨.str _, H, I.tok _, ⟨_, rfl⟩, q⟩
  | bl b =>
    obtain rfl : u = Value.bool b := ru
    exact PySem.P.repr_of_bool ⟨.str _, H, I.tok _, ⟨s.toks, by cases b <;> rfl⟩, q⟩
  | int i =>
    obtain ⟨t, rfl⟩ := ru
    exact PySem.P.repr_of_int (of_decide_eq_true sh) ⟨.str _, H, I.tok _, ⟨_, rfl⟩, q⟩
  | str z =>
    obtain ⟨t, rfl⟩ := ru
    have e : PyData.shown (.str z) = reprText z := PyData.shown_str z
    rw [e] at lz q
    refine PySem.P.repr_of_str (x := z) (t := t) ?_ lz
    exact ⟨.str _, H, I.tok _, ⟨_, rfl⟩, q⟩
  | lst h1 h2 => exact ref _ rfl
  | tup h1 h2 => exact ref _ rfl
  | emp h => exact ref _ rfl
theorem cr_reprA (sb : SysB X.base) (gd : X.A.guards = some []) (hu : X.A.units + 65 < cLine) : CallR X (.builtin "repr") (rReprA X.K) := cr_reprG (fun _ _ _ _ I _ _ _ _ ho _ hd z => by
  obtain ⟨_, o2, es, ep, h2, h3, _⟩ := sb
  have h4 := I.bk _ _ h2
  rw [z, h4] at ho
  obtain rfl := Option.some.inj ho
  exact nomatch h3.symm.trans hd) gd hu
end
/-! ### isinstance(e, C), e the exception that the suite holds, whatever its class -/
def rIsEG (K : PySem.W.Frag) (cls : Value) (d : Option Addr) (a : Addr) : List V → Hp → VK → Prop := fun xs H Q => ∃ (D : Addr) (c : V) (cv : Value) (b : Bool), xs = [.ref a, c] ∧ cls = .ref D ∧ ExcI K D ∧ (∃ (dd : Addr) (fs : List (Str × V)), d = some dd ∧ H dd = some (.xd fs)) ∧ (∀ u, RelV c u → u = cv) ∧ PySem.W.kitOne K (.ref D) cv = some b ∧ Q (.bl b) H
theorem call_isEG {X : Cx} {a : Addr} {oe : Obj} {cls : Value} {d : Option Addr} {pn : List (Addr × Obj)} (hz : Zc cls d oe) (hf : ∃ vs, oe.data = .fields vs) : CallR (X.suite a ((a, oe) :: pn)) (.builtin "isinstance") (rIsEG X.K cls d a) := by
  intro pins s σ H xs us Q I r h
  obtain ⟨D, c, cv, b, rfl, ec, C, ⟨dd, fs, ed, hdd⟩, hcv, e, q⟩ := h
  obtain ⟨u1, u2, rfl, r1, r2⟩ := vals2 r
  obtain rfl : u1 = Value.ref a := r1
  obtain rfl := hcv _ r2
  subst ec
  subst ed
  obtain ⟨hget, _⟩ := I.pin (a, oe) (List.mem_append.mpr (.inl List.mem_cons_self))
  obtain ⟨vs, hv⟩ := hf
  have hx : ObjOk X.prog X.w H s.heap dd (.xd fs) := I.hok dd _ hdd
  obtain ⟨od, hod⟩ := (show ∃ o, s.heap.get? dd = some o by
    obtain ⟨mA, ⟨o, es, n, h1, _⟩, _⟩ := hx
    exact ⟨o, h1⟩)
  have J : PySem.W.InstAt s.heap a oe D (some od) := by
    obtain ⟨oc, odi, oda, osl⟩ := oe
    obtain ⟨h1, h2⟩ := hz
    dsimp only at h1 h2 hv
    subst h1 h2 hv
    exact ⟨hget, rfl, rfl, hod⟩
  exact PySem.W.kia_one (PySem.W.kitx_exc C.hl C.hg C.hk C.hs C.ha C.hn C.ht C.hm) I.kIn J e (fun z => nomatch z) fun tk => ⟨.bl b, H, I.tok tk, rfl, q⟩
theorem kit1 {K : PySem.W.Frag} {t c : Value} {b : Bool} (h : PySem.W.kitAny K t [c] = some b) : PySem.W.kitOne K t c = some b := by
  unfold PySem.W.kitAny at h
  split at h
  · rename_i e
    rw [e, h]
  · rename_i e
    rw [e]
    exact h
  · cases h
theorem rel_cls {C : Addr} : ∀ u, RelV (.ref C) u → u = Value.ref C := fun _ h => h
theorem rel_ty {s : String} : ∀ u, RelV (.ty s) u → u = Value.type s := fun _ h => h
end CG

-- lambdas
/-! ### lambdas without parameters as values -/
namespace CG
open PySem PySem.Spec PyProof.Rows L2
/-- what such a lambda is made of -/
structure LF where
  qual : Str
  params : Arguments
  body : Expr
  scope : Scope
  cl : List (Str × Addr)
  c : Addr
abbrev LF.ob (L : LF) (pm ctv : Value) : Obj := PySem.W.kla_obj "<lambda>" L.qual L.params L.body L.scope L.cl pm L.c ctv
/-- the object at f is the lambda L -/
def LamO (f : Addr) (L : LF) : HO := .ext fun h => ∃ pm ctv : Value, h.get? f = some (L.ob pm ctv)
theorem lamO_tbl {f : Addr} {L : LF} (ps : Array Value) : LamO f L ≠ .tbl ps := fun z => HO.noConfusion (show HO.ext _ = HO.tbl ps from z)
abbrev lname (X : Cx) : Str := X.env.qual ++ "<lambda>"
abbrev lfOf (X : Cx) (params : Arguments) (body : Expr) (scope : Scope) (c' : Addr) : LF := ⟨lname X, params, body, scope, cloFrom X.env.cells scope.names [], c'⟩
section
variable {X : Cx} {pins : List (Addr × Obj)} {σ : L2.St} {H : Hp} {s : Shared} {params : Arguments} {body : Expr} {scope : Scope}
/-- a lambda's object, just pushed, is known from now on -/
theorem lam_pushed {L : LF} {pm ctv : Value} {tk : Nat} (I : Inv X pins σ H s) : Inv X pins σ (upd H s.heap.objs.size (LamO s.heap.objs.size L)) { s with heap := s.heap.push (L.ob pm ctv), toks := tk } := by
  have here : (s.heap.push (L.ob pm ctv)).get? s.heap.objs.size = some (L.ob pm ctv) := Heap.get?_push_size _ rfl
  exact I.laid (fun b u q => Heap.get?_push_of_some _ q) (Nat.le_refl _) ⟨⟨pm, ctv, here⟩, ⟨_, here⟩, fun g1 g2 ⟨p, c, z⟩ keep => ⟨p, c, keep _ z⟩⟩
/-- the lambda is made -/
theorem lam_new {T : List (Addr × Str)} {c P : Addr} {pos : Pos} {E : Value → Shared → Prop} {Q : Value → Shared → Prop} (I : Inv X pins σ H s) (TB : LamX.TabB X.base X.mg c P) (hcode : X.env.code = .ref c)
    (hm : (P, lname X) ∈ T) (one : ∀ p ∈ T, p.1 = P → p.2 = lname X) (tabs : LamX.Tabs T H) (hdef : defaultsOf params X.env = ([], [])) (has : ∀ y ∈ scope.names, y.2 = .free → ∃ c, X.env.cells.lookup y.1 = some c)
    (k : ∀ (f c' : Addr) (G : Hp) (s' : Shared), Inv X pins σ G s' → LamX.ExtN H G → LamX.Tabs T G → H f = none → G f = some (LamO f (lfOf X params body scope c')) → G c' = some (LamX.CodeO c' (lname X)) → Q (.ref f) s') :
    wpAny (model X.prog X.w) X.A (eval (.Lambda params body scope pos) X.env) Q E s := by
  obtain ⟨ps, atP, trip, told⟩ := tabs _ hm
  have blt : s.heap.BuiltinsAt X.mg P := TB.bm.keeps I.bk
  have objP : s.heap.get? P = some { cls := .none, data := .fields ps } := I.hok P _ atP
  have hd := TB.code.keeps I.bk
  refine PySem.W.kla_eval hdef ?_
  match found : codeAmong pos ps.toList with
  | some cv =>
    obtain ⟨c', rfl, known⟩ := told pos cv found
    refine PySem.W.kla_makeFunctionHit (mg := X.mg) (c := c) (P := P) (ps := ps) (closure_ok has) I.ok.glob (I.mod.glob.keeps I.bk) hcode hd objP trip found blt fun ctv h' tk grown _ => ?_
    have J : Inv X pins σ H { s with heap := h', toks := tk } := I.kept grown
    have none1 : H h'.objs.size = none := J.hok.fresh (Nat.le_refl _)
    refine k h'.objs.size c' _ _ (lam_pushed (L := lfOf X params body scope c') (tk := tk) (pm := (X.mg "__name__").getD .none) (ctv := ctv) J) (fun b o e _ => ?_) (tabs.ext fun b o e => ?_) none1 upd_same ?_
    · rw [upd_ne (ne_of_none e none1)]
      exact e
    · rw [upd_ne (ne_of_none e none1)]
      exact e
    · rw [upd_ne (ne_of_none known none1)]
      exact known
  | none =>
    refine PySem.W.kla_makeFunction (mg := X.mg) (c := c) (P := P) (ps := ps) (closure_ok has) I.ok.glob (I.mod.glob.keeps I.bk) hcode hd objP trip found TB.gP blt fun c' ctv h' tk butP ge lt rec tabP => ?_
    obtain ⟨c2, oc, vs, t, e2, hoc, hdc, hv⟩ := rec
    obtain rfl := Value.ref.inj e2
    have none0 : H c' = none := I.hok.fresh ge
    have J := LamX.inv_table (t' := tk) (more := #[rawInt pos.line, rawInt pos.col, .ref c']) (h' := h') I atP (fun b o n e => butP b o n e) tabP ge ⟨oc, vs, t, hoc, hdc, hv⟩
    generalize hG : upd (upd H P (.tbl (ps ++ #[rawInt pos.line, rawInt pos.col, .ref c']))) c' (LamX.CodeO c' (lname X)) = G at J
    have nPc : P ≠ c' := ne_of_none atP none0
    have gP : G P = some (.tbl (ps ++ #[rawInt pos.line, rawInt pos.col, .ref c'])) := by rw [← hG, upd_ne nPc, upd_same]
    have gc : G c' = some (LamX.CodeO c' (lname X)) := by rw [← hG, upd_same]
    have gO : ∀ b o, b ≠ P → H b = some o → G b = some o := fun b o n e => by rw [← hG, upd_ne (ne_of_none e none0), upd_ne n]; exact e
    have gX : LamX.ExtN H G := fun b o e n => gO b o (fun z => n ps (Option.some.inj (e.symm.trans (by rw [z]; exact atP)))) e
    have eL : (ps ++ #[rawInt pos.line, rawInt pos.col, .ref c']).toList = ps.toList ++ [rawInt pos.line, rawInt pos.col, .ref c'] := by simp
    have tG : LamX.Tabs T G := fun p hp => by
      by_cases hb : p.1 = P
      · rw [one p hp hb, hb]
        refine ⟨_, gP, by rw [eL]; exact PySem.TriplesOk_snoc _ _ _ _ trip, fun p' cv hcv => ?_⟩
        rw [eL] at hcv
        rcases LamX.among_app _ trip hcv with z | z
        · obtain ⟨c0, a1, a2⟩ := told p' cv z
          exact ⟨c0, a1, gX _ _ a2 LamX.codeO_ne⟩
        · exact ⟨c', z, gc⟩
      · obtain ⟨us, a1, a2, a3⟩ := tabs p hp
        refine ⟨us, gO _ _ hb a1, a2, fun p' cv hcv => ?_⟩
        obtain ⟨c0, b1, b2⟩ := a3 p' cv hcv
        exact ⟨c0, b1, gX _ _ b2 LamX.codeO_ne⟩
    have none1 : G h'.objs.size = none := J.hok.fresh (Nat.le_refl _)
    have none2 : H h'.objs.size = none := I.hok.fresh (Nat.le_trans ge (Nat.le_of_lt lt))
    refine k h'.objs.size c' _ _ (lam_pushed (L := lfOf X params body scope c') (tk := tk) (pm := (X.mg "__name__").getD .none) (ctv := ctv) J) (fun b o e n => ?_) (tG.ext fun b o e => ?_) none2 upd_same ?_
    · have z := gX b o e n
      rw [upd_ne (ne_of_none z none1)]
      exact z
    · rw [upd_ne (ne_of_none e none1)]
      exact e
    · rw [upd_ne (ne_of_none gc none1)]
      exact gc
end
/-- the reading of a lambda: a new object -/
def tLamV (T : List (Addr × Str)) (mk : Addr → LF) : TE := fun _ H Q => LamX.Tabs T H ∧ ∀ (f c' : Addr) (G : Hp), LamX.ExtN H G → LamX.Tabs T G → H f = none → G f = some (LamO f (mk c')) → G c' = some (LamX.CodeO c' (mk c').qual) → Q (.ref f) G
theorem pe_lam {X : Cx} {T : List (Addr × Str)} {c P : Addr} {params : Arguments} {body : Expr} {scope : Scope} {pos : Pos} (TB : LamX.TabB X.base X.mg c P) (hcode : X.env.code = .ref c) (hm : (P, lname X) ∈ T) (one : ∀ p ∈ T, p.1 = P → p.2 = lname X)
    (L : LamX.LamS X.env.scope scope) (hdef : defaultsOf params X.env = ([], [])) : PE X (.Lambda params body scope pos) (tLamV T (lfOf X params body scope)) :=
  ⟨fun pins s σ H Q I ⟨tabs, h⟩ => lam_new I TB hcode hm one tabs hdef (L.has I.ok) fun f c' G s' J eN tG n1 a1 a2 => ⟨.ref f, G, J, rfl, h f c' G eN tG n1 a1 a2⟩⟩
/-- x(), in a def that was entered from the maker's frame X at s -/
theorem pe_act {X : Cx} {pins : List (Addr × Obj)} {σ : L2.St} {H : Hp} {s : Shared} {CXg : CXT} {Eg : XK} {Ng : List Str} {qg : Str} {sg : Scope} {g f c' : Addr} {cdg : Value} {params : Arguments} {body : Expr} {scope : Scope} {k i : Nat} {a : Str} {pn : List (Addr × Obj)}
    {xe : Value → Shared → Prop} {W : WX} {tb : XK → TE} {p1 p2 : Pos} (I : Inv X pins σ H s) (L : LamX.LamS X.env.scope scope)
    (bind : ∀ pm ctv : Value, bindArgs (PySem.W.kla_fn "<lambda>" (lname X) params body scope (cloFrom X.env.cells scope.names []) pm (.ref c') ctv) ⟨[], []⟩ = pure [])
    (tk : Takes ((cxOf CXg X.prog X.w X.K X.mg X.base Ng qg sg g cdg X.A X.stack s H Eg).tr pn xe) W) (room : Room (k + 1) (X.A.deeper (envOfC qg sg s.heap.objs.size g cdg)))
    (hbody : ∀ (A : Around) (outer : List Env) (s : Shared) (H : Hp) (E : XK), Room k (A.deeper (LamX.lamEnv X scope s.heap.objs.size f c')) → PE (LamX.lamCx X A outer s H E scope f c') body (tb E))
    (hN : Ng[i]? = some a) (hv : Vis sg a) (hd : (a == ("__debug__" : Str)) = false := by decide) (hcd : (a == ("__classdict__" : Str)) = false := by decide) :
    PE ((cxOf CXg X.prog X.w X.K X.mg X.base Ng qg sg g cdg X.A X.stack s H Eg).tr pn xe) (.Call (.Name a p1) [] [] p2)
      (fun τ G Q => τ[i]? = some (some (.ref f)) ∧ G f = some (LamO f (lfOf X params body scope c')) ∧ G c' = some (LamX.CodeO c' (lname X)) ∧ ∃ Ec : XK, (∀ cls d G', Ec cls d G' → W cls d τ G') ∧ tb Ec σ G Q) := by
  refine ⟨fun pinsZ sZ τ G Q IZ ⟨slot, isL, isC, Ec, hEc, h⟩ => ?_⟩
  have look := (pe_var (pos := p1) (i := i) hN hv hd hcd).run pinsZ sZ τ G (fun v G1 => v = .ref f ∧ G1 = G) IZ ⟨.ref f, slot, rfl, rfl⟩
  refine wpAny_Call_Name_kw (thn look fun u s1 ⟨v, G1, I1, r1, ev, eG⟩ => ?_)
  subst ev
  rw [eG] at I1
  obtain rfl : u = Value.ref f := r1
  obtain ⟨⟨pm, ctv, obj⟩, _, _⟩ := I1.hok f _ isL
  refine PySem.W.callWith_F0 ⟨_, _, _, _, obj⟩ ?_
  have un : Un (frs X.stack) [] H G s.heap s1.heap := I1.base
  obtain ⟨⟨oc, vs, t, hoc, hdc, hvc⟩, _, _⟩ := I1.hok c' _ isC
  have rc : codeAny (model X.prog X.w) (X.A.deeper (envOfC qg sg s.heap.objs.size g cdg)) (.call (.ref f) ⟨[], []⟩) (CR (L2.CX X.prog X.w) (envOfC qg sg s.heap.objs.size g cdg :: X.stack) X.prog X.w G s1 Q Ec) s1 := by
    refine PySem.W.kla_callFunE room.depth obj rfl L.co L.gen rfl ⟨c', oc, vs, t, rfl, hoc, hdc, hvc⟩ ?_
    rw [bind]
    refine wpAny_pure (wpAny_newFunctionEnv (fun y hy => (L.own y hy).2) (fun y hy => absurd hy List.not_mem_nil) (fun h₁ hns hsb => ⟨I1.nolimit.fresh _ hsb, ?_⟩) L.kind)
    show codeAny _ _ (.expr body (LamX.lamEnv X scope s1.heap.objs.size f c')) _ _
    have kept : ∀ b o, s1.heap.get? b = some o → h₁.get? b = some o := fun b o e => hsb.extBut b o (Nat.ne_of_lt (Heap.lt_size e)) (Heap.get?_push_of_some _ e)
    have J := LamX.lam_start2 (A := X.A.deeper (envOfC qg sg s.heap.objs.size g cdg)) (outer := envOfC qg sg s.heap.objs.size g cdg :: X.stack) (E := Ec) (f := f) (c' := c') (tk := s1.toks + ([] : List (Str × Value)).length) I L I1.env0 room.hd un hns kept
    refine PySem.W.kla_codeExpr (wpAny_mono ((hbody _ _ s1 G Ec (room.deeper _)).run [] _ _ G Q J h) (fun v s' out => ?_) fun e s' out => out)
    obtain ⟨v', G', J', rv, q⟩ := out
    exact ⟨v', G', J'.os, J'.bare, J'.base, J'.hok, rv, q⟩
  refine wpAny_call (codeAny_mono rc fun out s' q => ?_)
  match out, q with
  | .error e, q => exact tk e s' (XE.of_call I1 hEc q)
  | .ok (.ret u), q => exact I1.after q
/-- what a def makes of the lambda that it got: a calls it; Rd: that the lambda is there; tl: the lambda's reading -/
def Gives (P : Program) (w : World) (K : PySem.W.Frag) (mg : Str → Option Value) (base : Heap) (k : Nat) (Ng : List Str) (x a : Str) (st : Stmt) (g : Addr) (TT : (XK → Hp → VK → Prop) → Hp → VK → Prop) : Prop :=
  ∀ (A : Around) (outer : List Env) (cdg : Value) (f : Addr) (s : Shared) (H : Hp) (Q : VK) (Rd : Hp → Prop) (tl : XK → Hp → VK → Prop), A.guards = some [] → Room k (A.deeper (envOfC x (defScope st) s.heap.objs.size g cdg)) →
    (∀ (W : WX) (pn : List (Addr × Obj)) (xe : Value → Shared → Prop) (p1 p2 : Pos), Takes ((cxOf CX0 P w K mg base Ng x (defScope st) g cdg A outer s H fun _ _ _ => False).nox.tr pn xe) W →
      PE ((cxOf CX0 P w K mg base Ng x (defScope st) g cdg A outer s H fun _ _ _ => False).nox.tr pn xe) (.Call (.Name a p1) [] [] p2) (fun τ G Q => τ[0]? = some (some (.ref f)) ∧ Rd G ∧ ∃ Ec : XK, (∀ cls d G', Ec cls d G' → W cls d τ G') ∧ tl Ec G Q)) →
    Rd H → TT tl H Q → ∃ t, PSs (cxOf CX0 P w K mg base Ng x (defScope st) g cdg A outer s H fun _ _ _ => False).nox (defBody st) t ∧ t { nx := fun _ H' => Q .non H', rt := Q } (start Ng [.ref f]) H
/-- the reading of x(e), e one of some lambdas of this very frame -/
def tSaid (X : Cx) {ι : Type} (pa : ι → Arguments) (bo : ι → Expr) (sc : ι → Scope) (tb : ι → XK → TE) (TT : (XK → Hp → VK → Prop) → Hp → VK → Prop) (te : TE) : TE := fun σ H Q => te σ H fun v H1 =>
  ∃ (i : ι) (f c' : Addr), [v] = [V.ref f] ∧ H1 f = some (LamO f (lfOf X (pa i) (bo i) (sc i) c')) ∧ H1 c' = some (LamX.CodeO c' (lname X)) ∧ TT (fun E G R => tb i E σ G R) H1 Q
/-- x(e), e one of some lambdas of this very frame -/
theorem pe_said {X : Cx} {ι : Type} {pa : ι → Arguments} {bo : ι → Expr} {sc : ι → Scope} {tb : ι → XK → TE} {x a : Str} {st : Stmt} {g : Addr} {fd : FuncData} {Ng : List Str} {k : Nat} {TT : (XK → Hp → VK → Prop) → Hp → VK → Prop} {e : Expr} {te : TE} {p pos : Pos}
    (F : Fun X.K x x st g fd) (b : Binds X.K fd [a] []) (S : FnScope Ng [a] (defScope st)) (hg : Gl X x) (hm : X.mg x = some (.ref g)) (n0 : Ng[0]? = some a) (va : Vis (defScope st) a) (gives : Gives X.prog X.w X.K X.mg X.base k Ng x a st g TT) (gd : X.A.guards = some []) (room : Room (k + 2) X.A)
    (lam : ∀ i, LamX.LamS X.env.scope (sc i)) (bind : ∀ (i : ι) (q : Str) (cl : List (Str × Addr)) (pm cv ctv : Value), bindArgs (PySem.W.kla_fn "<lambda>" q (pa i) (bo i) (sc i) cl pm cv ctv) ⟨[], []⟩ = pure [])
    (hbody : ∀ (i : ι) (A : Around) (outer : List Env) (s : Shared) (H : Hp) (E : XK) (f c' : Addr), Room k (A.deeper (LamX.lamEnv X (sc i) s.heap.objs.size f c')) → PE (LamX.lamCx X A outer s H E (sc i) f c') (bo i) (tb i E))
    (he : PE X e te) (hdb : (x == ("__debug__" : Str)) = false := by decide) (hd : (a == ("__debug__" : Str)) = false := by decide) (hcd : (a == ("__classdict__" : Str)) = false := by decide)
    (hst : starEach [e] X.env = (false, eval e X.env) :: starEach [] X.env := by rfl) (hpl : (backTo pos (starEach [] X.env)).any (·.1) = false := by rfl) :
    PE X (.Call (.Name x p) [e] [] pos) (tSaid X pa bo sc tb TT te) := by
  refine ⟨fun pins s σ H Q I h => ?_⟩
  obtain ⟨oc, od, kV, doc, pm, an, cdv, ct, osl, rfl, lk, hcd0⟩ := F.ex
  have arg : PA X [e] (tCons te tNil) := pa_cons (hs := hst) he pa_nil
  have h2 : tCons te tNil σ H (fun vs H1 => ∃ (i : ι) (f c' : Addr), vs = [.ref f] ∧ H1 f = some (LamO f (lfOf X (pa i) (bo i) (sc i) c')) ∧ H1 c' = some (LamX.CodeO c' (lname X)) ∧ TT (fun E G R => tb i E σ G R) H1 Q) := h
  refine wpAny_Call_Name_kw (ld_glob I hg hm (PySem.W.callWith_K (h₀ := X.base) I.ok.mod.kin F.kp (thn (arg.run pos pins s σ H _ I h2) fun us s1 hh => ?_) hst hpl) hdb)
  obtain ⟨vs, H1, I1, r, i, f, c', rfl, isL, isC, tt⟩ := hh
  rw [Vals.ref1 r]
  refine ⟨I1.kIn, ?_⟩
  have rc : codeAny (model X.prog X.w) X.A (.call (.ref g) ⟨[.ref f], []⟩) (CR CX0 X.stack X.prog X.w H1 s1 Q fun _ _ _ => False) s1 := by
    refine LamX.run_ofS (k := k + 1) (N := Ng) (ps := [a]) (us := [.ref f]) (vs := [.ref f]) lk hcd0 S room I1.env0 (b s1 [.ref f] I1.kIn rfl) (.cons rfl .nil) rfl fun inner => ?_
    obtain ⟨t, ht, q⟩ := gives X.A X.stack cdv f s1 H1 Q (fun G => G f = some (LamO f (lfOf X (pa i) (bo i) (sc i) c')) ∧ G c' = some (LamX.CodeO c' (lname X))) (fun E G R => tb i E σ G R) gd (inner.mono (Nat.le_succ k))
      (fun W pn xe p1 p2 tk => ⟨fun pins s τ G R J z => (pe_act (CXg := CX0) (Eg := fun _ _ _ => False) (i := 0) I1 (lam i) (fun pm ctv => bind i _ _ _ _ _) tk inner (fun A outer s H E => hbody i A outer s H E f c') n0 va hd hcd).run pins s τ G R J ⟨z.1, z.2.1.1, z.2.1.2, z.2.2⟩⟩) ⟨isL, isC⟩ tt
    exact ⟨t, ht.nox, q⟩
  refine wpAny_call (codeAny_mono rc fun out s2 q => ?_)
  match out, q with
  | .error err, q => exact (show False from q).elim
  | .ok (.ret u), q => exact I1.after q
/-- the reading of x(lambda: ..): the table of code objects at P -/
def tSaid1 (X : Cx) (P : Addr) (tb : XK → TE) (TT : (XK → Hp → VK → Prop) → Hp → VK → Prop) : TE := fun σ H Q =>
  LamX.Tabs [(P, lname X)] H ∧ ∀ G, LamX.ExtN H G → LamX.Tabs [(P, lname X)] G → TT (fun E G R => tb E σ G R) G Q
/-- x(lambda: ..) -/
theorem pe_said1 {X : Cx} {tb : XK → TE} {x a : Str} {st : Stmt} {g c P : Addr} {fd : FuncData} {Ng : List Str} {k : Nat} {TT : (XK → Hp → VK → Prop) → Hp → VK → Prop} {params : Arguments} {body : Expr} {scope : Scope} {p lpos pos : Pos}
    (F : Fun X.K x x st g fd) (b : Binds X.K fd [a] []) (S : FnScope Ng [a] (defScope st)) (hg : Gl X x) (hm : X.mg x = some (.ref g)) (n0 : Ng[0]? = some a) (va : Vis (defScope st) a) (gives : Gives X.prog X.w X.K X.mg X.base k Ng x a st g TT) (gd : X.A.guards = some []) (room : Room (k + 2) X.A)
    (TB : LamX.TabB X.base X.mg c P) (hcode : X.env.code = .ref c)
    (hbody : ∀ (A : Around) (outer : List Env) (s : Shared) (H : Hp) (E : XK) (f c' : Addr), Room k (A.deeper (LamX.lamEnv X scope s.heap.objs.size f c')) → PE (LamX.lamCx X A outer s H E scope f c') body (tb E))
    (lam : LamX.LamS X.env.scope scope) (hdef : defaultsOf params X.env = ([], []) := by rfl) (bind : ∀ (q : Str) (cl : List (Str × Addr)) (pm cv ctv : Value), bindArgs (PySem.W.kla_fn "<lambda>" q params body scope cl pm cv ctv) ⟨[], []⟩ = pure [] := by intros; rfl)
    (hdb : (x == ("__debug__" : Str)) = false := by decide) (hd : (a == ("__debug__" : Str)) = false := by decide) (hcd : (a == ("__classdict__" : Str)) = false := by decide)
    (hst : starEach [Expr.Lambda params body scope lpos] X.env = (false, eval (Expr.Lambda params body scope lpos) X.env) :: starEach [] X.env := by rfl) (hpl : (backTo pos (starEach [] X.env)).any (·.1) = false := by rfl) :
    PE X (.Call (.Name x p) [.Lambda params body scope lpos] [] pos) (tSaid1 X P tb TT) := by
  have he : PE X (.Lambda params body scope lpos) (tLamV [(P, lname X)] (lfOf X params body scope)) := pe_lam TB hcode (List.mem_singleton.mpr rfl) (fun p hp _ => by rw [List.mem_singleton.mp hp]) lam hdef
  refine ⟨fun pins s σ H Q I h => ?_⟩
  refine (pe_said (ι := Unit) (pa := fun _ => params) (bo := fun _ => body) (sc := fun _ => scope) (tb := fun _ => tb) (TT := TT) F b S hg hm n0 va gives gd room (fun _ => lam) (fun _ => bind) (fun _ => hbody) he hdb hd hcd hst hpl).run pins s σ H Q I ?_
  exact ⟨h.1, fun f c' G eN tG _ a1 a2 => ⟨(), f, c', rfl, a1, a2, h.2 G eN tG⟩⟩
end CG

/-! ### defs that make lambdas, and the end where they stand -/
namespace CG
open PySem PySem.Spec PyProof.Rows L2
section
variable {P : Program} {w : World} {K : PySem.W.Frag} {mg : Str → Option Value} {base : Heap}
/-- a def by its body, where nothing is being printed and its code object is known -/
theorem okGT {x qual : Str} {st : Stmt} {f c : Addr} {fd : FuncData} {N ps : List Str} {k : Nat} {sp : Sp} (F : Fun K x qual st f fd) (at_c : fd.code = .ref c) (S : FnScope N ps (defScope st)) (len : ∀ vs H Q E, sp vs H Q E → vs.length = ps.length)
    (body : ∀ (A : Around) (fr : List Env) (s : Shared) (H : Hp) (vs : List V) (Q : VK) (E : XK), A.guards = some [] → Room k (A.deeper (envOfC qual (defScope st) s.heap.objs.size f (.ref c))) → sp vs H Q E →
      ∃ t, PSs (cxOf CX0 P w K mg base N qual (defScope st) f (.ref c) A fr s H E).nox (defBody st) t ∧ t { nx := fun _ H' => Q .non H', rt := Q } (start N vs) H) : FnOkG P w K mg base (k + 1) f fd ps sp := by
  obtain ⟨o1, o2, d1, d2, d3, o3, cd, ct, o4, rfl, look, code⟩ := F.ex
  obtain rfl : cd = .ref c := at_c
  refine ⟨len, fun A fr s H as us vs Q E gd room en bind rel want => ?_⟩
  have kin : K.In s.heap := en.mod.kin.keeps fun b o e => (en.bs b o e).1
  have lim := en.mod.nolimit.keeps fun b o e => (en.bs b o e).1
  have kinds : ∀ y ∈ ps.zip us, (defScope st).names.lookup y.1 = some .local ∨ ((defScope st).names.lookup y.1 = some .cell ∧ ((cellsFrom (s.heap.objs.size + 1) (defScope st).names []).lookup y.1).isSome = true) := fun ⟨n, v⟩ hy =>
    (S.par n (List.of_mem_zip hy).1).imp id fun q => ⟨q, PySem.W.cellsFrom_some _ _ _ (.inl q)⟩
  refine codeAny_call_function room.depth (kin _ _ look) rfl S.co S.gen rfl (PySem.W.codeRec_of kin code) (bind _ _ _ _ ?_)
  refine wpAny_newFunctionEnv_cells S.kind kinds fun env isEnv s1 entry => ?_
  subst isEnv
  refine ⟨lim.keeps entry.toInCall.keep, codeAny_func ?_⟩
  obtain ⟨t, rule, reading⟩ := body A fr s H vs Q E gd (room.deeper _) want
  have begins := inv_start (CX := CX0) (E := E) S room.hd en (len _ _ _ _ want) rel entry
  refine wpAny_mono (rule.nox.run [] s1 (start N vs) H _ begins reading) (fun fl s' out => ?_) fun e s' out => out
  match fl, out with
  | .ret u, ⟨v, _, H', J, rv, q⟩ => exact ⟨v, H', J.os, J.bare, J.base, J.hok, rv, q⟩
  | .next, ⟨_, H', J, q⟩ => exact ⟨V.non, H', J.os, J.bare, J.base, J.hok, rfl, q⟩
  | .brk, ⟨_, _, _, q⟩ => exact q.elim
  | .cont, ⟨_, _, _, q⟩ => exact q.elim
end
/-- the code object and its empty table of the def that stands at fa -/
def TabAt (h : Heap) (mg : Str → Option Value) (x : Str) : Prop := ∃ (a : Addr) (o : Obj) (fd : FuncData) (c P : Addr), mg x = some (.ref a) ∧ h.get? a = some o ∧ o.data = .func fd ∧ fd.code = .ref c ∧ PySem.W.CodeHd h c P ∧ h.get? P = some { cls := .none, data := .fields #[] }
theorem tab_by {h : Heap} {mg : Str → Option Value} {l : List DefRec} {x : Str} (tabs : ∀ r ∈ l, TabAt h mg r.name) (m : x ∈ l.map (·.name)) : TabAt h mg x := by
  obtain ⟨r, hr, rfl⟩ := List.mem_map.mp m
  exact tabs r hr
/-- where a def's data are known, so is its code object -/
theorem TabAt.at {h : Heap} {mg : Str → Option Value} {K : PySem.W.Frag} {x qual : Str} {st : Stmt} {f : Addr} {fd : FuncData} (t : TabAt h mg x) (inK : K.In h) (m : mg x = some (.ref f)) (F : Fun K x qual st f fd) :
    ∃ c P, fd.code = .ref c ∧ PySem.W.CodeHd h c P ∧ h.get? P = some { cls := .none, data := .fields #[] } := by
  obtain ⟨a, o, fd2, c, P, m2, at_a, isF, isC, hd, tab⟩ := t
  obtain ⟨_, _, _, _, _, _, _, _, _, rfl, look, _⟩ := F.ex
  obtain rfl : f = a := Value.ref.inj (Option.some.inj (m.symm.trans m2))
  obtain rfl := Option.some.inj ((inK _ _ look).symm.trans at_a)
  obtain rfl := Data.func.inj isF
  exact ⟨c, P, isC, hd, tab⟩
/-- no table of code objects stands in the part -/
def noTab (K : PySem.W.Frag) : Bool := K.all fun p => match p.2.cls, p.2.data with
  | .none, .fields _ => false
  | _, _ => true
theorem noTab_at {K : PySem.W.Frag} {h : Heap} {P : Addr} (inK : K.In h) (n : noTab K = true) (e : h.get? P = some { cls := .none, data := .fields #[] }) : K.lookup P = none := by
  cases l : K.lookup P with
  | none => rfl
  | some o =>
    obtain rfl := Option.some.inj ((inK _ _ l).symm.trans e)
    have := List.all_eq_true.mp n (P, { cls := .none, data := .fields #[] }) (PySem.W.mem_of_lookupK l)
    exact nomatch (show false = true from this)
/-- the law at its script, from a promise of that kind, the tables of code objects known -/
theorem law_callGT {P : Program} {w : World} {K : PySem.W.Frag} {mg mb : Str → Option Value} {k : Nat} {fa a : Addr} {ts : List (Addr × Addr)} {fd : FuncData} {x : Str} {sp : Sp} {s₁ : Shared} {us : List Value} {ms : List Int}
    (inK : K.In s₁.heap) (g1 : s₁.heap.Ns mainGlobals mg) (g2 : s₁.heap.Ns builtinsNs mb) (g3 : ∀ x : Str, x ≠ "__name__" → mb x = bootBuiltins x) (g4 : s₁.heap.NoLimit) (g5 : s₁.gens = #[])
    (empty : ∀ p ∈ ts, s₁.heap.get? p.2 = some { cls := .none, data := .fields #[] }) (offK : ∀ p ∈ ts, K.lookup p.2 = none) (codes : ∀ p ∈ ts, PySem.W.CodeHd s₁.heap p.1 p.2)
    (main : ∃ (bm : Addr) (ob : Obj), mg "__builtins__" = some (.ref bm) ∧ bm ≠ builtinsNs ∧ s₁.heap.get? bm = some ob ∧ ob.cls = .type "module" ∧ ob.dict = some builtinsNs ∧ ob.data = .plain)
    (at_a : s₁.heap.get? a = some { cls := .type "list", data := .seq us.toArray }) (are : IntsAre us ms) (short : ms.length ≤ sizeLine) (room : Room k callerA)
    (F : ∀ base : Heap, K.In base → base.Ns mainGlobals mg → (∀ p ∈ ts, LamX.TabB base mg p.1 p.2) → (∀ b m, s₁.heap.Ns b m → base.Ns b m) → FnOkG P w K mg base k fa fd [x] sp) (bind : ∀ (s : Shared) (u : Value), BindsTo s fd ⟨[u], []⟩ [(x, u)])
    (want : ∀ H : Hp, (∀ p ∈ ts, H p.2 = some (.tbl #[])) → SqL K H a (ms.map V.int) → sp [.ref a] H (fun v _ => v = .bl true) fun _ _ _ => False) :
    codeAny (model P w) callerA (.call (.ref fa) ⟨[.ref a], []⟩) (fun r s' => r = .ok (.ret (.bool true)) ∧ OldK s₁.heap s'.heap ∧ s'.os = s₁.os ∧ AllBare s'.gens) s₁ := by
  have vals := vals_ints are
  have many := are.length
  let tb : List Addr := ts.map (·.2)
  have isT : ∀ b ∈ tb, s₁.heap.get? b = some { cls := .none, data := .fields #[] } := fun b hb => by
    obtain ⟨p, hp, rfl⟩ := List.mem_map.mp hb
    exact empty p hp
  have inT : ∀ p ∈ ts, p.2 ∈ tb := fun p hp => List.mem_map.mpr ⟨p, hp, rfl⟩
  have aT : a ∉ tb := fun z => by
    have q := (isT a z).symm.trans at_a
    exact nomatch (congrArg Obj.data (Option.some.inj q) : Data.fields #[] = Data.seq us.toArray _)
  have core : ∀ H : Hp, (∀ p ∈ ts, H p.2 = some (.tbl #[])) → (∀ b, H b = none ∨ b ∈ tb ∨ ∃ o xs, H b = some (.frz o (.lst xs))) → SqL K H a (ms.map V.int) → HOk P w H s₁.heap → (∀ b, H b ≠ none → b = a ∨ b ∈ tb) → (H a ≠ none → K.lookup a = none) →
      codeAny (model P w) callerA (.call (.ref fa) ⟨[.ref a], []⟩) (fun r s' => r = .ok (.ret (.bool true)) ∧ OldK s₁.heap s'.heap ∧ s'.os = s₁.os ∧ AllBare s'.gens) s₁ := by
    intro H atT only seq hok just out
    have off : ∀ {b : Addr} {o : Obj}, s₁.heap.get? b = some o → (∀ vs n, o.data ≠ .seq vs n) → o.data ≠ .fields #[] → (hidT s₁.heap H).get? b = some o := fun {b o} e n1 n2 => hidT_get e (Classical.byContradiction fun z => by
      rcases just b z with rfl | hb
      · obtain rfl := Option.some.inj (at_a.symm.trans e)
        exact n1 _ _ rfl
      · obtain rfl := Option.some.inj ((isT b hb).symm.trans e)
        exact n2 rfl)
    have dicts : ∀ {b : Addr} {o : Obj} {es : Array DictEntry} {n : Nat}, s₁.heap.get? b = some o → o.data = .dict es n → (hidT s₁.heap H).get? b = some o := fun {b o es n} e d => off e (fun vs m z => nomatch d.symm.trans z) fun z => nomatch d.symm.trans z
    have names : ∀ {b : Addr} {m : Str → Option Value}, s₁.heap.Ns b m → (hidT s₁.heap H).Ns b m := fun {b m} ⟨o, es, n, e, d, r⟩ => ⟨o, es, n, dicts e d, d, r⟩
    have inB : K.In (hidT s₁.heap H) := fun b o e => hidT_get (inK b o e) (Classical.byContradiction fun z => by
      rcases just b z with rfl | hb
      · rw [out z] at e
        cases e
      · obtain ⟨p, hp, rfl⟩ := List.mem_map.mp hb
        rw [offK p hp] at e
        cases e)
    have known : Mod K mg (hidT s₁.heap H) := ⟨inB, names g1, ⟨mb, names g2, g3⟩, g4.elim fun mc z => ⟨mc, names z.1, z.2⟩⟩
    have made : ∀ p ∈ ts, LamX.TabB (hidT s₁.heap H) mg p.1 p.2 := fun p hp => by
      have here := empty p hp
      have notG : mainGlobals ≠ p.2 := fun z => by
        obtain ⟨o, es, n, e, d, _⟩ := g1
        rw [z] at e
        obtain rfl := Option.some.inj (here.symm.trans e)
        exact nomatch d
      refine ⟨?_, ?_, notG⟩
      · obtain ⟨o, vs, fl, tf, fg, tg, nf, tx, tt, e1, r1, r2, r3, r⟩ := codes p hp
        refine ⟨o, vs, fl, tf, fg, tg, nf, tx, tt, off e1 (fun _ _ z => nomatch r2.symm.trans z) (fun z => ?_), r1, r2, r3, r⟩
        obtain rfl := Data.fields.inj (r2.symm.trans z)
        exact absurd r3 (by simp)
      · obtain ⟨bm, ob, b1, b2, b3, b4, b5, b6⟩ := main
        refine ⟨bm, ob, b1, b2, fun z => ?_, fun z => ?_, off b3 (fun _ _ z => nomatch b6.symm.trans z) (fun z => nomatch b6.symm.trans z), b4, b5, b6⟩
        · obtain ⟨o, es, n, e, d, _⟩ := g1
          rw [z] at b3
          obtain rfl := Option.some.inj (b3.symm.trans e)
          exact nomatch b6.symm.trans d
        · rw [z] at b3
          obtain rfl := Option.some.inj (b3.symm.trans here)
          exact nomatch b6
    have entry : Env0 P w K mg (hidT s₁.heap H) callerA [] s₁ H := ⟨rfl, known, fun b o e => of_hidT e, Nat.le_of_eq (hidT_size _ _), trivial, fun b z => (List.not_mem_nil z).elim, hok, .of_eq g5⟩
    refine codeAny_mono ((F _ inB (names g1) made fun _ _ => names).go callerA [] s₁ H ⟨[.ref a], []⟩ [.ref a] [.ref a] _ _ rfl room entry (bind s₁ (.ref a)) (.cons rfl .nil) (want H atT seq)) fun r s' h => ?_
    match r, h with
    | .ok (.ret u), ⟨v, H', os, bare, un, hok', rel, (q : v = .bl true)⟩ =>
      subst q
      obtain rfl : u = Value.bool true := rel
      have stays : ∀ b o, b ∉ tb → s₁.heap.get? b = some o → s'.heap.get? b = some o := fun b o nb e => by
        rcases only b with z | z | ⟨ob, xs, z⟩
        · exact un.keep b o e z (fun m => (List.not_mem_nil m).elim) (by simp)
        · exact absurd z nb
        · have e1 := (hok b _ z).1
          have e2 := (hok' b _ (un.frzs b ob _ z)).1
          obtain rfl := Option.some.inj (e.symm.trans e1)
          exact e2
      have grown : ∀ p ∈ ts, ∃ more : Array Value, s'.heap.get? p.2 = some { cls := .none, data := .fields more } := fun p hp => by
        obtain ⟨more, z⟩ := un.tbls p.2 #[] (atT p hp)
        exact ⟨_, hok' p.2 _ z⟩
      refine ⟨rfl, ⟨fun b o e => ?_, fun b o e => ?_⟩, os, bare⟩
      · rcases Classical.em (b ∈ tb) with hb | hb
        · obtain ⟨p, hp, rfl⟩ := List.mem_map.mp hb
          obtain ⟨more, hm⟩ := grown p hp
          obtain rfl := Option.some.inj ((empty p hp).symm.trans e)
          exact .inr (.inl ⟨((codes p hp).tab (empty p hp)).isCodeTable, rfl, #[], more, rfl, by rw [Array.empty_append]; exact hm⟩)
        · exact .inl (stays b o hb e)
      · rcases Classical.em (b ∈ tb) with hb | hb
        · obtain ⟨p, hp, rfl⟩ := List.mem_map.mp hb
          obtain ⟨more, hm⟩ := grown p hp
          exact ⟨_, hm⟩
        · exact ⟨o, stays b o hb e⟩
  cases look : K.lookup a with
  | some o =>
    obtain rfl := Option.some.inj (at_a.symm.trans (inK a o look))
    let G : Hp := fun b => if b ∈ tb then some (.tbl #[]) else none
    have gT : ∀ b ∈ tb, G b = some (.tbl #[]) := fun b hb => if_pos hb
    have gN : ∀ b, b ∉ tb → G b = none := fun b hb => if_neg hb
    refine core G (fun p hp => gT _ (inT p hp)) (fun b => ?_) (.inr ⟨_, us.toArray, _, look, rfl, rfl, rfl, by simpa [many] using short, by simpa using vals⟩) (fun b u z => ?_) (fun b z => .inr (Classical.byContradiction fun n => z (gN b n))) fun z => (z (gN a aT)).elim
    · exact (Classical.em (b ∈ tb)).elim (fun h => .inr (.inl h)) fun h => .inl (gN b h)
    · rcases Classical.em (b ∈ tb) with h | h
      · obtain rfl := Option.some.inj ((gT b h).symm.trans z)
        exact isT b h
      · exact absurd ((gN b h).symm.trans z) (fun e => nomatch e)
  | none =>
    let O : Obj := { cls := .type "list", data := .seq us.toArray }
    let G : Hp := fun b => if b = a then some (.frz O (.lst (ms.map V.int))) else if b ∈ tb then some (.tbl #[]) else none
    have gA : G a = some (.frz O (.lst (ms.map V.int))) := if_pos rfl
    have gT : ∀ b ∈ tb, G b = some (.tbl #[]) := fun b hb => (if_neg (fun z : b = a => aT (z ▸ hb))).trans (if_pos hb)
    have gN : ∀ b, b ≠ a → b ∉ tb → G b = none := fun b n hb => (if_neg n).trans (if_neg hb)
    refine core G (fun p hp => gT _ (inT p hp)) (fun b => ?_) (.inl (.inr ⟨O, gA⟩)) (fun b u z => ?_) (fun b z => ?_) fun _ => look
    · rcases Decidable.em (b = a) with rfl | n
      · exact .inr (.inr ⟨_, _, gA⟩)
      · exact (Classical.em (b ∈ tb)).elim (fun h => .inr (.inl h)) fun h => .inl (gN b n h)
    · rcases Decidable.em (b = a) with rfl | n
      · obtain rfl := Option.some.inj (gA.symm.trans z)
        exact ⟨at_a, by rw [List.length_map]; exact short, us, _, vals, at_a⟩
      · rcases Classical.em (b ∈ tb) with h | h
        · obtain rfl := Option.some.inj ((gT b h).symm.trans z)
          exact isT b h
        · exact absurd ((gN b n h).symm.trans z) (fun e => nomatch e)
    · rcases Decidable.em (b = a) with rfl | n
      · exact .inl rfl
      · exact .inr (Classical.byContradiction fun h => z (gN b n h))
/-- a law's end, from a promise of that kind -/
theorem walk_ofGT {l : PySem.W.OpenLaw} {n k : Nat} {q : Program} {loose : List Str} {XP : (Str → Option Value) → Heap → Prop} {YP : World → Heap → Prop} {d : DefRec} {x : Str}
    (most : l.most = some n) (small : n ≤ sizeLine) (plain : d.params.defaults = []) (room : Room k callerA)
    (F : ∀ (w : World) (mg : Str → Option Value) (fa : Addr) (h : Heap), YP w h → h.Ns mainGlobals mg → mg d.name = some (.ref fa) → (∀ r ∈ recsOf q, TabAt h mg r.name) → (importsNone q = true → h.NoSeer) →
      ∃ (K : PySem.W.Frag) (fd : FuncData) (sp : Sp) (ts : List (Addr × Addr)), K.In h ∧ (∀ p ∈ ts, h.get? p.2 = some { cls := .none, data := .fields #[] }) ∧ (∀ p ∈ ts, K.lookup p.2 = none) ∧ (∀ p ∈ ts, PySem.W.CodeHd h p.1 p.2) ∧ (∀ (s : Shared) (u : Value), BindsTo s fd ⟨[u], []⟩ [(x, u)]) ∧
        (∀ (H : Hp) (a : Addr) (ms : List Int), ms.length ≤ n → (∀ p ∈ ts, H p.2 = some (.tbl #[])) → SqL K H a (ms.map V.int) → sp [.ref a] H (fun v _ => v = .bl true) fun _ _ _ => False) ∧
        ∀ base : Heap, K.In base → base.Ns mainGlobals mg → (∀ p ∈ ts, LamX.TabB base mg p.1 p.2) → (∀ b m, h.Ns b m → base.Ns b m) → FnOkG l.prog w K mg base k fa fd [x] sp) :
    PySem.W.WalkO q loose XP YP l.row.toRowW d [] (fun f vs => PySem.call f vs) :=
  Att.attach_call most plain fun w s₀ s₁ mg mb fa o pm cd doc a us ms G Y ho hd hcd named at_a are len gens => by
    have tabs : ∀ r ∈ recsOf q, TabAt s₁.heap mg r.name := fun r hr => by
      obtain ⟨b, u, fd, c, P, m, e1, e2, e3, e4, e5⟩ := G.T.tab r hr
      refine ⟨b, u, fd, c, P, m, e1, e2, e3, PySem.W.CodeHd.of e4 e5, ?_⟩
      exact e5.2
    obtain ⟨K, fd, sp, ts, inK, t1, t2, t3, bind, want, prom⟩ := F w mg fa _ Y G.T.g named tabs G.T.seer
    exact law_callGT inK G.T.g G.T.b G.T.builtins G.T.nolimit gens t1 t2 t3 G.T.bmain at_a are (Nat.le_trans len small) room prom bind fun H atT seq => want H a ms len atT seq
end CG

/-! ### lambdas that are kept, and called later in the same frame -/
-- lambdas
namespace CG
open PySem PySem.Spec PyProof.Rows L2
/-- what a lambda of this frame makes when it is called: tb -/
def LamOk (X : Cx) (k : Nat) (pa : Arguments) (bo : Expr) (sc : Scope) (tb : XK → TE) : Prop :=
  LamX.LamS X.env.scope sc ∧ (∀ (q : Str) (cl : List (Str × Addr)) (pm cv ctv : Value), bindArgs (PySem.W.kla_fn "<lambda>" q pa bo sc cl pm cv ctv) ⟨[], []⟩ = pure []) ∧
  ∀ (A : Around) (outer : List Env) (s : Shared) (H : Hp) (E : XK) (f c' : Addr), Room k (A.deeper (LamX.lamEnv X sc s.heap.objs.size f c')) → PE (LamX.lamCx X A outer s H E sc f c') bo (tb E)
/-- the lambda of X at f: its object, its code object, what it makes -/
def LamAt (X : Cx) (k : Nat) (H : Hp) (f : Addr) (tb : XK → TE) : Prop := ∃ (pa : Arguments) (bo : Expr) (sc : Scope) (c' : Addr), H f = some (LamO f (lfOf X pa bo sc c')) ∧ H c' = some (LamX.CodeO c' (lname X)) ∧ LamOk X k pa bo sc tb
def tLamK (X : Cx) (k : Nat) (P : Addr) (tb : XK → TE) : TE := fun _ H Q => LamX.Tabs [(P, lname X)] H ∧ ∀ (f : Addr) (G : Hp), LamX.ExtN H G → LamX.Tabs [(P, lname X)] G → H f = none → LamAt X k G f tb → Q (.ref f) G
theorem pe_lamK {X : Cx} {c P : Addr} {k : Nat} {tb : XK → TE} {params : Arguments} {body : Expr} {scope : Scope} {pos : Pos} (TB : LamX.TabB X.base X.mg c P) (hcode : X.env.code = .ref c)
    (hbody : ∀ (A : Around) (outer : List Env) (s : Shared) (H : Hp) (E : XK) (f c' : Addr), Room k (A.deeper (LamX.lamEnv X scope s.heap.objs.size f c')) → PE (LamX.lamCx X A outer s H E scope f c') body (tb E))
    (lam : LamX.LamS X.env.scope scope) (hdef : defaultsOf params X.env = ([], []) := by rfl) (bind : ∀ (q : Str) (cl : List (Str × Addr)) (pm cv ctv : Value), bindArgs (PySem.W.kla_fn "<lambda>" q params body scope cl pm cv ctv) ⟨[], []⟩ = pure [] := by intros; rfl) :
    PE X (.Lambda params body scope pos) (tLamK X k P tb) := by
  refine ⟨fun pins s σ H Q I h => ?_⟩
  refine (pe_lam (T := [(P, lname X)]) TB hcode (List.mem_singleton.mpr rfl) (fun p hp _ => by rw [List.mem_singleton.mp hp]) lam hdef).run pins s σ H Q I ?_
  exact ⟨h.1, fun f c' G eN tG n a1 a2 => h.2 f G eN tG n ⟨params, body, scope, c', a1, a2, lam, bind, hbody⟩⟩
/-- X is Y in another place of the same frame -/
def SameX (X Y : Cx) : Prop := X.prog = Y.prog ∧ X.w = Y.w ∧ X.K = Y.K ∧ X.mg = Y.mg ∧ X.base = Y.base ∧ X.N = Y.N ∧ X.env = Y.env
theorem LamAt.same {X Y : Cx} {k : Nat} {H : Hp} {f : Addr} {tb : XK → TE} (e : SameX X Y) (h : LamAt Y k H f tb) : LamAt X k H f tb := by
  obtain ⟨e1, e2, e3, e4, e5, e6, e7⟩ := e
  have hl : lname X = lname Y := by unfold lname; rw [e7]
  have hf : ∀ pa bo sc c', lfOf X pa bo sc c' = lfOf Y pa bo sc c' := fun pa bo sc c' => by unfold lfOf lname; rw [e7]
  have he : ∀ sc L f c', LamX.lamEnv X sc L f c' = LamX.lamEnv Y sc L f c' := fun sc L f c' => by unfold LamX.lamEnv; rw [e7]
  have hx : ∀ A outer s H E sc f c', LamX.lamCx X A outer s H E sc f c' = LamX.lamCx Y A outer s H E sc f c' := fun A outer s H E sc f c' => by
    unfold LamX.lamCx LamX.lamEnv
    rw [e1, e2, e3, e4, e5, e6, e7]
  obtain ⟨pa, bo, sc, c', a1, a2, a3, a4, a5⟩ := h
  refine ⟨pa, bo, sc, c', by rw [hf]; exact a1, by rw [hl]; exact a2, by rw [e7]; exact a3, a4, fun A outer s H E f c' r => ?_⟩
  rw [hx]
  exact a5 A outer s H E f c' (by rw [← he]; exact r)
/-- the reading of x(e), e a lambda of this frame -/
def tSaidK (Y : Cx) (k : Nat) (TT : (XK → Hp → VK → Prop) → Hp → VK → Prop) (te : TE) : TE := fun σ H Q => te σ H fun v H1 =>
  ∃ (f : Addr) (tb : XK → TE), [v] = [V.ref f] ∧ LamAt Y k H1 f tb ∧ TT (fun E G R => tb E σ G R) H1 Q
theorem pe_saidK {X : Cx} (Y : Cx) (same : SameX X Y) {x a : Str} {st : Stmt} {g : Addr} {fd : FuncData} {Ng : List Str} {k : Nat} {TT : (XK → Hp → VK → Prop) → Hp → VK → Prop} {e : Expr} {te : TE} {p pos : Pos}
    (F : Fun X.K x x st g fd) (b : Binds X.K fd [a] []) (S : FnScope Ng [a] (defScope st)) (hg : Gl X x) (hm : X.mg x = some (.ref g)) (n0 : Ng[0]? = some a) (va : Vis (defScope st) a) (gives : Gives X.prog X.w X.K X.mg X.base k Ng x a st g TT) (gd : X.A.guards = some []) (room : Room (k + 2) X.A)
    (he : PE X e te) (hdb : (x == ("__debug__" : Str)) = false := by decide) (hd : (a == ("__debug__" : Str)) = false := by decide) (hcd : (a == ("__classdict__" : Str)) = false := by decide)
    (hst : starEach [e] X.env = (false, eval e X.env) :: starEach [] X.env := by rfl) (hpl : (backTo pos (starEach [] X.env)).any (·.1) = false := by rfl) :
    PE X (.Call (.Name x p) [e] [] pos) (tSaidK Y k TT te) := by
  refine ⟨fun pins s σ H Q I h => ?_⟩
  obtain ⟨oc, od, kV, doc, pm, an, cdv, ct, osl, rfl, lk, hcd0⟩ := F.ex
  have arg : PA X [e] (tCons te tNil) := pa_cons (hs := hst) he pa_nil
  have h2 : tCons te tNil σ H (fun vs H1 => ∃ (f : Addr) (tb : XK → TE), vs = [.ref f] ∧ LamAt Y k H1 f tb ∧ TT (fun E G R => tb E σ G R) H1 Q) := h
  refine wpAny_Call_Name_kw (ld_glob I hg hm (PySem.W.callWith_K (h₀ := X.base) I.ok.mod.kin F.kp (thn (arg.run pos pins s σ H _ I h2) fun us s1 hh => ?_) hst hpl) hdb)
  obtain ⟨vs, H1, I1, r, f, tb, rfl, la, tt⟩ := hh
  obtain ⟨pa, bo, sc, c', isL, isC, lam, bind, hbody⟩ := la.same same
  rw [Vals.ref1 r]
  refine ⟨I1.kIn, ?_⟩
  have rc : codeAny (model X.prog X.w) X.A (.call (.ref g) ⟨[.ref f], []⟩) (CR CX0 X.stack X.prog X.w H1 s1 Q fun _ _ _ => False) s1 := by
    refine LamX.run_ofS (k := k + 1) (N := Ng) (ps := [a]) (us := [.ref f]) (vs := [.ref f]) lk hcd0 S room I1.env0 (b s1 [.ref f] I1.kIn rfl) (.cons rfl .nil) rfl fun inner => ?_
    obtain ⟨t, ht, q⟩ := gives X.A X.stack cdv f s1 H1 Q (fun G => G f = some (LamO f (lfOf X pa bo sc c')) ∧ G c' = some (LamX.CodeO c' (lname X))) (fun E G R => tb E σ G R) gd (inner.mono (Nat.le_succ k))
      (fun W pn xe p1 p2 tk => ⟨fun pins s τ G R J z => (pe_act (CXg := CX0) (Eg := fun _ _ _ => False) (i := 0) I1 lam (fun pm ctv => bind _ _ _ _ _) tk inner (fun A outer s H E => hbody A outer s H E f c') n0 va hd hcd).run pins s τ G R J ⟨z.1, z.2.1.1, z.2.1.2, z.2.2⟩⟩) ⟨isL, isC⟩ tt
    exact ⟨t, ht.nox, q⟩
  refine wpAny_call (codeAny_mono rc fun out s2 q => ?_)
  match out, q with
  | .error err, q => exact (show False from q).elim
  | .ok (.ret u), q => exact I1.after q
theorem LamAt.ext {X : Cx} {k : Nat} {H G : Hp} {f : Addr} {tb : XK → TE} (h : LamAt X k H f tb) (e : LamX.ExtN H G) : LamAt X k G f tb := by
  obtain ⟨pa, bo, sc, c', a1, a2, a3⟩ := h
  exact ⟨pa, bo, sc, c', e _ _ a1 lamO_tbl, e _ _ a2 LamX.codeO_ne, a3⟩
end CG

/-! ### comprehensions whose element calls a lambda of the frame -/
-- lambdas
namespace CG
open PySem PySem.Spec PyProof.Rows L2
/-- the element's run in the block, the maker's own state at the block's start being known -/
def PEm (X : Cx) (scope : Scope) (elt : Expr) (te : TE) (vs : List Nat) : Prop :=
  ∀ (pm : List (Addr × Obj)) (τ : L2.St) (t : Shared) (G : Hp) (cl : List (Str × Addr)) (ws : List Addr), Inv X pm τ G t → (∀ b ∈ ws, FpOk X pm G b ∧ b < t.heap.objs.size) →
  ∀ (pq : List (Addr × Obj)) (u : Shared) (ρ : L2.St) (G2 : Hp) (Q : VK), Inv (X.blk t G scope (compEnvC scope cl t.heap.objs.size X.env) ws) pq ρ G2 u → wipe ρ vs = wipe τ vs → te ρ G2 Q →
    wpAny (model X.prog X.w) X.A (eval elt (compEnvC scope cl t.heap.objs.size X.env)) (EP (X.blk t G scope (compEnvC scope cl t.heap.objs.size X.env) ws) pq ρ Q) (fun _ _ => False) u
theorem pe_lcM {X : Cx} {elt tg iter : Expr} {scope : Scope} {own : List (Str × Nat)} {pos : Pos} {wi : TI} {g : TG} {te : TE} (calm : X.calm = true) (nd : X.N.Nodup) (hi : PI X tg iter wi) (ok : BlkOk X.N X.env.scope scope own)
    (hg : ∀ (s : Shared) (H : Hp) (C : Addr) (cl : List (Str × Addr)) (fp : List Addr), PG (X.blk s H scope (compEnvC scope cl C X.env) fp) tg g) (he : PEm X scope elt te (own.map (·.2))) (plain : ∀ x, foldedSetIterable iter X.env x = pure x := by intro _; rfl) :
    PE X (.ListComp elt [⟨tg, iter, [], 0⟩] scope pos) (tLc wi g tYes te (own.map (·.2))) := by
  refine ⟨fun pins s σ H Q I want => ?_⟩
  rw [eval_ListComp]
  have caps : ∀ y ∈ scope.names, y.2 = .free → ∃ c, X.env.cells.lookup y.1 = some c := fun y m e => (ok.free y m e).elim (fun q => I.ok.has _ (.inl q)) fun q => I.ok.has _ (.inr q)
  refine wpAny_comprehension_free (use := none) rfl plain (closure_ok caps) ok.kind (fun y m e => by rw [ok.uniq y m, e]) (thn (hi.run pins s σ H _ I want) fun _ _ came => thn came fun _ t2 got => ?_)
  obtain ⟨itr, ws, tn, J, G0, rfl, K0, T, on0, foot, rest⟩ := got
  refine wpAny_newObj_type (newEnv_comp ?_) (by show 0 ≤ sizeLine; decide)
  obtain ⟨D, eD⟩ : ∃ D, t2.heap.objs.size = D := ⟨_, rfl⟩
  rw [eD]
  obtain ⟨W, ⟨m0, w0⟩, each⟩ := rest D (K0.hok.fresh (Nat.le_of_eq eD))
  obtain ⟨t3, e3⟩ : ∃ t3 : Shared, { t2 with heap := t2.heap.push { cls := .type "list", data := .seq ([] : List Value).toArray } } = t3 := ⟨_, rfl⟩
  have up : t3.heap = t2.heap.push { cls := .type "list", data := .seq ([] : List Value).toArray } := by rw [← e3]
  have K3 : Inv X pins σ (upd G0 D (.lst [])) t3 := by
    rw [← e3]
    refine K0.laid (t' := t2.toks) (fun b o q => Heap.get?_push_of_some _ q) (Nat.le_of_eq eD) ⟨Nat.zero_le _, [], 0, .nil, ?_⟩
    rw [← eD]
    exact Heap.get?_push_size _ rfl
  have feet : ∀ b ∈ ws, FpOk X pins (upd G0 D (.lst [])) b ∧ b < t3.heap.objs.size := fun b hb => by
    obtain ⟨o, q, _⟩ := T.obj _ _ on0 b hb
    have lt := Heap.lt_size q
    have ne : b ≠ D := by rw [← eD]; exact Nat.ne_of_lt lt
    exact ⟨⟨by rw [upd_ne ne]; exact (foot b hb).1, (foot b hb).2⟩, by rw [up, Heap.size_push]; exact Nat.lt_succ_of_lt lt⟩
  have on3 : tn 0 t3.heap := T.keep _ _ _ on0 fun b _ o q => by rw [up]; exact Heap.get?_push_of_some _ q
  have K4 := block_start K3 ok nd feet
  obtain ⟨G3, eG⟩ : ∃ G3, upd G0 D (.lst []) = G3 := ⟨_, rfl⟩
  rw [eG] at K3 K4 feet w0
  obtain ⟨cl, ec⟩ : ∃ cl, cellsFrom (t3.heap.objs.size + 1) scope.names (cloFrom X.env.cells scope.names []) = cl := ⟨_, rfl⟩
  rw [ec] at K4
  have elts := he pins σ t3 G3 cl ws K3 feet
  have tgts := hg t3 G3 t3.heap.objs.size cl ws
  rw [e3]
  show codeAny _ _ (.compStart (.ListComp elt [⟨tg, iter, [], 0⟩] scope pos) 0 (.ref itr) (.ref D) (compEnvC scope (cellsFrom (t3.heap.objs.size + 1) scope.names (cloFrom X.env.cells scope.names [])) t3.heap.objs.size X.env)) (compPost (model X.prog X.w) X.A X.xe none (EP X pins σ Q) (.ref D) t3.heap.objs.size) { t3 with heap := pushCells (t3.heap.push { cls := .type "dict", data := .dict #[] }) scope.names }
  rw [ec]
  obtain ⟨env, ee⟩ : ∃ env, compEnvC scope cl t3.heap.objs.size X.env = env := ⟨_, rfl⟩
  have locs : env.locals = t3.heap.objs.size := by rw [← ee]; rfl
  rw [ee] at K4 elts tgts ⊢
  obtain ⟨t4, e4⟩ : ∃ t4 : Shared, { t3 with heap := pushCells (t3.heap.push { cls := .type "dict", data := .dict #[] }) scope.names } = t4 := ⟨_, rfl⟩
  have on4 : tn 0 t4.heap := T.keep _ _ _ on3 fun b _ o q => by rw [← e4]; exact pushCells_keeps _ _ _ _ (Heap.get?_push_of_some _ q)
  rw [e4] at K4 ⊢
  have stays : ∀ {ρ : L2.St} {G : Hp} {u : Shared}, Inv (X.blk t3 G3 scope env ws) [] ρ G u → (∀ b ∈ ws, G b = none) → ∀ b ∈ ws, FpOk (X.blk t3 G3 scope env ws) [] G b := fun {ρ G u} M off b hb =>
    ⟨off b hb, (M.ok.exf b hb).1, M.ok.exfs b hb, .inl hb, fun x c q => (M.ok.exf b hb).2 x c q, fun p hp => nomatch (show p ∈ ([] : List (Addr × Obj)) ++ [] from hp)⟩
  have round : codeAny (model X.prog X.w) X.A (.compLoop (.ListComp elt [⟨tg, iter, [], 0⟩] scope pos) 0 (.ref itr) (.ref D) env) (compPost (model X.prog X.w) X.A X.xe none (EP X pins σ Q) (.ref D) t3.heap.objs.size) t4 := by
    refine compLoop_any (fun n u => ∃ j G, Inv (X.blk t3 G3 scope env ws) [] (wipe σ (own.map (·.2))) G u ∧ tn j u.heap ∧ (∀ b ∈ ws, G b = none) ∧ W j n G) ?_ m0 ⟨0, G3, K4, on4, fun b hb => (feet b hb).1.1, w0⟩
    rintro n u5 ⟨j, G5, M5, on5, off5, w5⟩
    rcases each j n G5 w5 with ⟨halt, fine⟩ | ⟨goes, Nx, next, turn⟩
    · refine thnF (T.done (X.blk t3 G3 scope env ws) rfl rfl rfl calm j [] u5 _ G5 (fun _ _ => False) M5 (stays M5 off5) on5 halt) fun r u6 ⟨er, M6⟩ => ?_
      subst er
      have back : Inv X pins σ G5 u6 := K3.call' (ch := ws) M6.os M6.base M6.hok M6.bare fun b hb => ⟨(feet b hb).1.2.2.2.1, (feet b hb).1.2.1, (feet b hb).1.2.2.2.2.1, (feet b hb).1.2.2.2.2.2⟩
      have offL : G5 t3.heap.objs.size = none := by
        rw [← locs]
        exact M6.free
      obtain ⟨mm, names, _⟩ := M6.loc
      have names : u6.heap.Ns t3.heap.objs.size mm := by
        rw [← locs]
        exact names
      obtain ⟨f0, f1, _, f3, f4, f5⟩ := K3.fpOk (Nat.le_refl _) offL
      exact ⟨mm, names, fun h'' sb => ⟨.ref D, G5, back.turned (t' := u6.toks) (fun b o hb q => (sb.2 b hb).trans q) f0 f1 f3 f4 f5, rfl, fine⟩⟩
    · refine thnF (T.item (X.blk t3 G3 scope env ws) rfl rfl rfl calm j [] u5 _ G5 (fun _ _ => False) M5 (stays M5 off5) on5 goes) fun r u6 ⟨v, er, more⟩ => ?_
      subst er
      refine thnF more fun _ u7 ⟨x, G7, M7, rx, yx, on7, off7⟩ => ?_
      refine thnF (tgts.run _ u7 _ G7 x v _ (M7.pinned (stays M7 off7) (T.obj _ _ on7)) rx (turn x G7 yx)) fun _ u8 ⟨ρ, G8, M8, wq, q8⟩ => ?_
      have again : ∀ {u : Shared} {G : Hp}, Inv (X.blk t3 G3 scope env ws) ([] ++ pinsAt ws u7.heap) ρ G u → Nx G → ∃ m, m < n ∧ ∃ j G, Inv (X.blk t3 G3 scope env ws) [] (wipe σ (own.map (·.2))) G u ∧ tn j u.heap ∧ (∀ b ∈ ws, G b = none) ∧ W j m G := fun {u G} M nx => by
        obtain ⟨m2, lt, w2⟩ := next G nx
        have same : ∀ b ∈ ws, ∀ o, u7.heap.get? b = some o → u.heap.get? b = some o ∧ G b = none := fun b hb o q =>
          have z := M.pin (b, o) (List.mem_append_right _ (List.mem_append_right _ (mem_pinsAt hb q)))
          ⟨z.1, z.2.1⟩
        refine ⟨m2, lt, j + 1, G, (M.unpinned (pins := [])).weak (by rw [← wq, wipe_length]) (fun i z q => ?_), T.keep _ _ _ on7 fun b hb o q => (same b hb o q).1, fun b hb => ?_, w2⟩
        · rw [← wq] at q
          exact (wipe_some q).1
        · obtain ⟨o, q, _⟩ := T.obj _ _ on7 b hb
          exact (same b hb o q).2
      refine wpAny_tests_nil ?_
      have q9 : te ρ G8 fun y G9 => ∃ acc, G9 D = some (.lst acc) ∧ acc.length < sizeLine ∧ Nx (upd G9 D (.lst (acc ++ [y]))) := q8
      rw [if_pos rfl]
      refine thnF (elts _ u8 ρ G8 _ M8 wq q9) fun z u9 ⟨y, GA, MA, ry, acc, hDA, lz, nx⟩ => ?_
      exact app_ok (X := X.blk t3 G3 scope env ws) MA hDA lz ry fun uB MB => again MB nx
  exact codeAny_compStart_list round (T.self X.A 0 _ _ _ on4 round)
/-- the reading of x(e) in such a block, e a lambda of the frame; the block's own names are no names of the lambda -/
def tSaidC (X : Cx) (k : Nat) (vs : List Nat) (TT : (XK → Hp → VK → Prop) → Hp → VK → Prop) (te : TE) : TE := fun ρ H Q => te ρ H fun v H1 =>
  ∃ (f : Addr) (tb : XK → TE), [v] = [V.ref f] ∧ LamAt X k H1 f tb ∧ TT (fun E G R => tb E (wipe ρ vs) G R) H1 Q
theorem said_elt {X : Cx} {scope : Scope} {x a : Str} {st : Stmt} {g : Addr} {fd : FuncData} {Ng : List Str} {k : Nat} {vs : List Nat} {TT : (XK → Hp → VK → Prop) → Hp → VK → Prop} {e : Expr} {te : TE} {p pos : Pos}
    (F : Fun X.K x x st g fd) (b : Binds X.K fd [a] []) (S : FnScope Ng [a] (defScope st)) (hg : ∀ (s : Shared) (H : Hp) (C : Addr) (cl : List (Str × Addr)) (fp : List Addr), Gl (X.blk s H scope (compEnvC scope cl C X.env) fp) x) (hm : X.mg x = some (.ref g)) (n0 : Ng[0]? = some a) (va : Vis (defScope st) a)
    (gives : Gives X.prog X.w X.K X.mg X.base k Ng x a st g TT) (gd : X.A.guards = some []) (room : Room (k + 2) X.A)
    (he : ∀ (s : Shared) (H : Hp) (C : Addr) (cl : List (Str × Addr)) (fp : List Addr), PE (X.blk s H scope (compEnvC scope cl C X.env) fp) e te) (hdb : (x == ("__debug__" : Str)) = false := by decide) (hd : (a == ("__debug__" : Str)) = false := by decide) (hcd : (a == ("__classdict__" : Str)) = false := by decide)
    (hst : ∀ env : Env, starEach [e] env = (false, eval e env) :: starEach [] env := by intro _; rfl) (hpl : ∀ env : Env, (backTo pos (starEach [] env)).any (·.1) = false := by intro _; rfl) :
    PEm X scope (.Call (.Name x p) [e] [] pos) (tSaidC X k vs TT te) vs := by
  intro pm τ t G cl ws K feet pq u ρ G2 Q M wq want
  obtain ⟨oc, od, kV, doc, pms, an, cdv, ct, osl, rfl, lk, hcd0⟩ := F.ex
  have arg : PA (X.blk t G scope (compEnvC scope cl t.heap.objs.size X.env) ws) [e] (tCons te tNil) := pa_cons (hs := hst _) (he t G _ cl ws) pa_nil
  have want2 : tCons te tNil ρ G2 (fun vals H1 => ∃ (f : Addr) (tb : XK → TE), vals = [.ref f] ∧ LamAt X k H1 f tb ∧ TT (fun E G R => tb E (wipe ρ vs) G R) H1 Q) := want
  refine wpAny_Call_Name_kw (ld_glob M (hg t G _ cl ws) hm (PySem.W.callWith_K (h₀ := X.base) M.ok.mod.kin F.kp (thn (arg.run pos pq u ρ G2 _ M want2) fun us u1 got => ?_) (hst _) (hpl _)) hdb)
  obtain ⟨vals, H1, M1, r, f, tb, rfl, ⟨pa, bo, sc, c', isL, isC, lam, bind, hbody⟩, tt⟩ := got
  rw [Vals.ref1 r]
  refine ⟨M1.kIn, ?_⟩
  have outer : Inv X pm (wipe ρ vs) H1 u1 := by
    rw [wq]
    exact (K.call' (ch := ws) M1.os M1.base M1.hok M1.bare fun b hb => ⟨(feet b hb).1.2.2.2.1, (feet b hb).1.2.1, (feet b hb).1.2.2.2.2.1, (feet b hb).1.2.2.2.2.2⟩).weak (wipe_length _ _) fun i v q => (wipe_some q).1
  have rc : codeAny (model X.prog X.w) X.A (.call (.ref g) ⟨[.ref f], []⟩) (CR CX0 X.stack X.prog X.w H1 u1 Q fun _ _ _ => False) u1 := by
    refine LamX.run_ofS (k := k + 1) (N := Ng) (ps := [a]) (us := [.ref f]) (vs := [.ref f]) lk hcd0 S room outer.env0 (b u1 [.ref f] M1.kIn rfl) (.cons rfl .nil) rfl fun inner => ?_
    obtain ⟨tr, ht, q⟩ := gives X.A X.stack cdv f u1 H1 Q (fun G => G f = some (LamO f (lfOf X pa bo sc c')) ∧ G c' = some (LamX.CodeO c' (lname X))) (fun E G R => tb E (wipe ρ vs) G R) gd (inner.mono (Nat.le_succ k))
      (fun W pn xe p1 p2 tk => ⟨fun pins s τ G R J z => (pe_act (CXg := CX0) (Eg := fun _ _ _ => False) (i := 0) outer lam (fun pm ctv => bind _ _ _ _ _) tk inner (fun A outer s H E => hbody A outer s H E f c') n0 va hd hcd).run pins s τ G R J ⟨z.1, z.2.1.1, z.2.1.2, z.2.2⟩⟩) ⟨isL, isC⟩ tt
    exact ⟨tr, ht.nox, q⟩
  refine wpAny_call (codeAny_mono rc fun out u2 q => ?_)
  match out, q with
  | .error err, q => exact (show False from q).elim
  | .ok (.ret v), q => exact M1.after q
end CG

/-! ### list.count(True) of bools -/
namespace CG
open PySem PySem.Spec PyProof.Rows L2
def eqbT (v : Value) : Bool := match v with
  | .bool b => b == true
  | _ => false
theorem eqb_count : ∀ {xs : List Value} {bs : List Bool}, Vals (bs.map V.bl) xs → xs.countP eqbT = bs.count true ∧ ∀ y ∈ xs, ∃ b, y = .bool b
  | [], [], _ => ⟨rfl, fun y hy => nomatch hy⟩
  | x :: xs, b :: bs, .cons rx r => by
    obtain ⟨h1, h2⟩ := eqb_count (xs := xs) (bs := bs) r
    obtain rfl : x = Value.bool b := rx
    refine ⟨?_, fun y hy => ?_⟩
    · rw [List.countP_cons, List.count_cons, h1]
      rfl
    · rcases List.mem_cons.mp hy with rfl | hy
      · exact ⟨b, rfl⟩
      · exact h2 y hy
section
variable {X : Cx}
def rCntB (K : PySem.W.Frag) : V → List V → Hp → VK → Prop := fun x xs H Q => ∃ (p : Addr) (bs : List Bool), x = .ref p ∧ xs = [.bl true] ∧ SqL K H p (bs.map V.bl) ∧ Q (.int (bs.count true : Nat)) H
theorem mt_lcountB : MtR X "list.count" (rCntB X.K) := by
  intro pins s σ H x xs v us Q I rx rxs h
  obtain ⟨p, bs, rfl, rfl, hs, q⟩ := h
  cases rx
  obtain ⟨u, rfl, ru⟩ := rxs.one
  obtain rfl : u = Value.bool true := ru
  obtain ⟨its, rv, ⟨⟨cls, dd, data, sl⟩, n, ho, hc, hdn, hd⟩, hlen⟩ := I.list hs
  simp only at hc hd
  subst hc hd
  obtain ⟨ec, ey⟩ := eqb_count rv
  refine call_meets PySem.F.slot_list_count ⟨_, ho, rfl⟩ PySem.F.entry_list_count (PySem.F.args_list_count_2 _ _)
    (SeqAt.list_countAt p its.toArray n dd sl (.bool true) eqbT) ⟨ho, fun y hy => ?_, ?_⟩
  · obtain ⟨b, rfl⟩ := ey y (by simpa using hy)
    exact PySem.SeqAt.EqAt.bool_bool b true
  refine ⟨.int (bs.count true : Nat), H, I.tok _, ⟨s.toks, ?_⟩, q⟩
  show Value.int ((its.toArray.toList.countP eqbT : Nat) : Int) s.toks = Value.int ((bs.count true : Nat) : Int) s.toks
  rw [← ec]
end
end CG

/-! ### isinstance(e, (A, B)), e the exception that the suite holds, whatever its class -/
-- kexcis
namespace CG
open PySem PySem.Spec PyProof.Rows L2
def rIsEGT (K : PySem.W.Frag) (cls : Value) (d : Option Addr) (a : Addr) : List V → Hp → VK → Prop := fun xs H Q => ∃ D : Addr, ExcI K D ∧ rIsET K cls d D a xs H Q
theorem call_isEGT {X : Cx} {a : Addr} {oe : Obj} {cls : Value} {d : Option Addr} {pn : List (Addr × Obj)} (hz : Zc cls d oe) (hf : ∃ vs, oe.data = .fields vs) : CallR (X.suite a ((a, oe) :: pn)) (.builtin "isinstance") (rIsEGT X.K cls d a) := by
  intro pins s σ H xs us Q I r ⟨D, C, h⟩
  exact call_isET C hz hf pins s σ H xs us Q I r h
end CG

/-! ### repr of data, or of the dict {3: 4} -/
namespace CG
open PySem PySem.Spec PyProof.Rows L2
/-- x is shown as the text t -/
def ShV (K : PySem.W.Frag) (H : Hp) (x : V) (t : Str) : Prop := (∃ d : PyData, De K H x d ∧ d.showable = true ∧ d.shown.length ≤ sizeLine ∧ d.depth ≤ 60 ∧ t = d.shown) ∨ ∃ a : Addr, x = .ref a ∧ H a = some (.dK [(.inl 3, .int 4)]) ∧ t = (PyData.dict [(.int 3, .int 4)]).shown
def rReprV (K : PySem.W.Frag) : List V → Hp → VK → Prop := fun vs H Q => ∃ (x : V) (t : Str), vs = [x] ∧ ShV K H x t ∧ Q (.str t) H
theorem cr_reprV {X : Cx} (sb : SysB X.base) (gd : X.A.guards = some []) (hu : X.A.units + 65 < cLine) : CallR X (.builtin "repr") (rReprV X.K) := fun pins s σ H vs us Q I r h => by
  obtain ⟨x, t, rfl, h | ⟨a, rfl, ha, rfl⟩, q⟩ := h
  · obtain ⟨d, h1, h2, h3, h4, rfl⟩ := h
    exact cr_reprA sb gd hu pins s σ H _ us Q I r ⟨x, d, rfl, h1, h2, h3, h4, q⟩
  · rw [Vals.ref1 r]
    obtain ⟨_, hm, vs, rv, o, es, ep, ho, hx, hd, _, hp, _⟩ := dk_of I.hok ha
    obtain ⟨tk, tn, e, e0, e1, e2⟩ : ∃ (tk tn : Tok) (e : DictEntry), es.toList = [e] ∧ e.key = .int 3 tk ∧ e.val = .int 4 tn := by
      generalize es.toList = l at hp ⊢
      cases rv with
      | @cons _ q _ _ h1 h2 =>
        cases h2
        cases hp with
        | @cons e _ _ _ k v p =>
          cases p
          obtain ⟨h3, tn, h5⟩ := h1
          have k2 : keyIs q.1 e.key = true := k
          rw [← show (.inl 3 : L2.Key) = q.1 from h3] at k2
          obtain ⟨tk, h6⟩ := Value.isInt_shape (v := e.key) k2
          exact ⟨tk, tn, e, rfl, h6, v.trans h5⟩
    have hs : sysModules ∉ a :: ([] ++ []) ++ ([] ++ []) := fun z => by
      have z2 : sysModules = a := by simpa using z
      rw [← z2] at hm
      simp at hm
    have rd : Reads s.heap (.ref a) (.dict [(.int 3, .int 4)]) (a :: ([] ++ []) ++ ([] ++ [])) := Reads.dict (kvs := [(.int 3, .int 4)]) ho hx.1 hd (by rw [e0]; show ReadsAll s.heap [e.key] _ _; rw [e1]; exact .cons (.int 3 tk) .nil) (by rw [e0]; show ReadsAll s.heap [e.val] _ _; rw [e2]; exact .cons (.int 4 tn) .nil)
    refine repr_of_reads' rd (by decide +kernel) (fun _ => hs) gd (by
      have : (PyData.dict [(.int 3, .int 4)]).depth ≤ 3 := by simp [PyData.depth, PyData.depthKv]
      omega) (fun _ _ e => e) (fun h' u tk hk => ?_) (by decide +kernel)
    exact ⟨.str _, H, I.kept (t' := tk) hk, ⟨_, rfl⟩, q⟩
end CG

namespace CS
open PySem PySem.Spec PyProof.Rows L2
def top (i : Nat) : Stmt := PySem.Challenge.pw_calledseats_k03_invalid_tables_and_moves.main.body.getD i (.Pass ⟨0, 0, 0, 0⟩)
abbrev s_InvalidTable_init : Stmt := inClass (top 2) 0
abbrev N_InvalidTable_init : List Str := ["self", "rings"]
theorem sc_InvalidTable_init : FnScope N_InvalidTable_init ["self", "rings"] (defScope s_InvalidTable_init) := ⟨rfl, rfl, rfl, by decide +kernel, rfl, by decide +kernel, by decide +kernel⟩
abbrev s_InvalidSeat_init : Stmt := inClass (top 4) 0
abbrev N_InvalidSeat_init : List Str := ["self", "seat"]
theorem sc_InvalidSeat_init : FnScope N_InvalidSeat_init ["self", "seat"] (defScope s_InvalidSeat_init) := ⟨rfl, rfl, rfl, by decide +kernel, rfl, by decide +kernel, by decide +kernel⟩
abbrev s_InvalidCall_init : Stmt := inClass (top 5) 0
abbrev N_InvalidCall_init : List Str := ["self", "call"]
theorem sc_InvalidCall_init : FnScope N_InvalidCall_init ["self", "call"] (defScope s_InvalidCall_init) := ⟨rfl, rfl, rfl, by decide +kernel, rfl, by decide +kernel, by decide +kernel⟩
abbrev s_InvalidDirection_init : Stmt := inClass (top 6) 0
abbrev N_InvalidDirection_init : List Str := ["self", "direction"]
theorem sc_InvalidDirection_init : FnScope N_InvalidDirection_init ["self", "direction"] (defScope s_InvalidDirection_init) := ⟨rfl, rfl, rfl, by decide +kernel, rfl, by decide +kernel, by decide +kernel⟩
abbrev s_is_integer : Stmt := top 9
abbrev N_is_integer : List Str := ["value"]
theorem sc_is_integer : FnScope N_is_integer ["value"] (defScope s_is_integer) := ⟨rfl, rfl, rfl, by decide +kernel, rfl, by decide +kernel, by decide +kernel⟩
abbrev s_is_at_least : Stmt := top 10
abbrev N_is_at_least : List Str := ["value", "low"]
theorem sc_is_at_least : FnScope N_is_at_least ["value", "low"] (defScope s_is_at_least) := ⟨rfl, rfl, rfl, by decide +kernel, rfl, by decide +kernel, by decide +kernel⟩
abbrev s_is_between : Stmt := top 11
abbrev N_is_between : List Str := ["value", "low", "high"]
theorem sc_is_between : FnScope N_is_between ["value", "low", "high"] (defScope s_is_between) := ⟨rfl, rfl, rfl, by decide +kernel, rfl, by decide +kernel, by decide +kernel⟩
abbrev s_greatest_common_divisor : Stmt := top 12
abbrev N_greatest_common_divisor : List Str := ["first", "second"]
theorem sc_greatest_common_divisor : FnScope N_greatest_common_divisor ["first", "second"] (defScope s_greatest_common_divisor) := ⟨rfl, rfl, rfl, by decide +kernel, rfl, by decide +kernel, by decide +kernel⟩
abbrev s_Table_init : Stmt := inClass (top 15) 0
abbrev N_Table_init : List Str := ["self", "rings", "size"]
theorem sc_Table_init : FnScope N_Table_init ["self", "rings"] (defScope s_Table_init) := ⟨rfl, rfl, rfl, by decide +kernel, rfl, by decide +kernel, by decide +kernel⟩
abbrev s_Table_sizes : Stmt := inClass (top 15) 1
abbrev N_Table_sizes : List Str := ["self"]
theorem sc_Table_sizes : FnScope N_Table_sizes ["self"] (defScope s_Table_sizes) := ⟨rfl, rfl, rfl, by decide +kernel, rfl, by decide +kernel, by decide +kernel⟩
abbrev s_Table_count : Stmt := inClass (top 15) 2
abbrev N_Table_count : List Str := ["self", "product", "size"]
theorem sc_Table_count : FnScope N_Table_count ["self"] (defScope s_Table_count) := ⟨rfl, rfl, rfl, by decide +kernel, rfl, by decide +kernel, by decide +kernel⟩
abbrev s_Table_is_seat : Stmt := inClass (top 15) 3
abbrev N_Table_is_seat : List Str := ["self", "value", "place", "size"]
theorem sc_Table_is_seat : FnScope N_Table_is_seat ["self", "value"] (defScope s_Table_is_seat) := ⟨rfl, rfl, rfl, by decide +kernel, rfl, by decide +kernel, by decide +kernel⟩
abbrev s_Table_is_call : Stmt := inClass (top 15) 4
abbrev N_Table_is_call : List Str := ["self", "value", "one"]
theorem sc_Table_is_call : FnScope N_Table_is_call ["self", "value"] (defScope s_Table_is_call) := ⟨rfl, rfl, rfl, by decide +kernel, rfl, by decide +kernel, by decide +kernel⟩
abbrev s_Table_shifted : Stmt := inClass (top 15) 5
abbrev N_Table_shifted : List Str := ["self", "seat", "call", "factor", "place", "one", "size"]
theorem sc_Table_shifted : FnScope N_Table_shifted ["self", "seat", "call", "factor"] (defScope s_Table_shifted) := ⟨rfl, rfl, rfl, by decide +kernel, rfl, by decide +kernel, by decide +kernel⟩
abbrev s_Table_moves : Stmt := inClass (top 15) 6
abbrev N_Table_moves : List Str := ["self", "seat", "call"]
theorem sc_Table_moves : FnScope N_Table_moves ["self", "seat", "call"] (defScope s_Table_moves) := ⟨rfl, rfl, rfl, by decide +kernel, rfl, by decide +kernel, by decide +kernel⟩
abbrev s_Table_step : Stmt := inClass (top 15) 7
abbrev N_Table_step : List Str := ["self", "seat", "call", "direction", "both_seats"]
theorem sc_Table_step : FnScope N_Table_step ["self", "seat", "call", "direction"] (defScope s_Table_step) := ⟨rfl, rfl, rfl, by decide +kernel, rfl, by decide +kernel, by decide +kernel⟩
abbrev s_Table_order : Stmt := inClass (top 15) 8
abbrev N_Table_order : List Str := ["self", "seat", "least", "place", "size", "period"]
theorem sc_Table_order : FnScope N_Table_order ["self", "seat"] (defScope s_Table_order) := ⟨rfl, rfl, rfl, by decide +kernel, rfl, by decide +kernel, by decide +kernel⟩
abbrev s_Table_halves : Stmt := inClass (top 15) 9
abbrev N_Table_halves : List Str := ["self", "seat", "found", "place", "size", "start", "half"]
theorem sc_Table_halves : FnScope N_Table_halves ["self", "seat"] (defScope s_Table_halves) := ⟨rfl, rfl, rfl, by decide +kernel, rfl, by decide +kernel, by decide +kernel⟩
abbrev s_half_places : Stmt := top 16
abbrev N_half_places : List Str := ["place", "size"]
theorem sc_half_places : FnScope N_half_places ["place", "size"] (defScope s_half_places) := ⟨rfl, rfl, rfl, by decide +kernel, rfl, by decide +kernel, by decide +kernel⟩
abbrev s_is_direction : Stmt := top 17
abbrev N_is_direction : List Str := ["value"]
theorem sc_is_direction : FnScope N_is_direction ["value"] (defScope s_is_direction) := ⟨rfl, rfl, rfl, by decide +kernel, rfl, by decide +kernel, by decide +kernel⟩
abbrev s_require_seat : Stmt := top 18
abbrev N_require_seat : List Str := ["table", "seat"]
theorem sc_require_seat : FnScope N_require_seat ["table", "seat"] (defScope s_require_seat) := ⟨rfl, rfl, rfl, by decide +kernel, rfl, by decide +kernel, by decide +kernel⟩
abbrev s_require_call : Stmt := top 19
abbrev N_require_call : List Str := ["table", "call"]
theorem sc_require_call : FnScope N_require_call ["table", "call"] (defScope s_require_call) := ⟨rfl, rfl, rfl, by decide +kernel, rfl, by decide +kernel, by decide +kernel⟩
abbrev s_law_mixed : Stmt := top 21
abbrev N_law_mixed : List Str := ["_law_cell", "_law_draw", "_law_number"]
theorem sc_law_mixed : FnScope N_law_mixed ["_law_cell", "_law_draw"] (defScope s_law_mixed) := ⟨rfl, rfl, rfl, by decide +kernel, rfl, by decide +kernel, by decide +kernel⟩
abbrev s_law_source : Stmt := top 22
abbrev N_law_source : List Str := ["_law_cell"]
theorem sc_law_source : FnScope N_law_source ["_law_cell"] (defScope s_law_source) := ⟨rfl, rfl, rfl, by decide +kernel, rfl, by decide +kernel, by decide +kernel⟩
abbrev s_law_take : Stmt := top 23
abbrev N_law_take : List Str := ["_law_source_here", "_law_count", "_law_drawn"]
theorem sc_law_take : FnScope N_law_take ["_law_source_here", "_law_count"] (defScope s_law_take) := ⟨rfl, rfl, rfl, by decide +kernel, rfl, by decide +kernel, by decide +kernel⟩
abbrev s_law_big : Stmt := top 24
abbrev N_law_big : List Str := ["_law_source_here", "_law_found", "_law_k"]
theorem sc_law_big : FnScope N_law_big ["_law_source_here"] (defScope s_law_big) := ⟨rfl, rfl, rfl, by decide +kernel, rfl, by decide +kernel, by decide +kernel⟩
abbrev s_law_rings : Stmt := top 25
abbrev N_law_rings : List Str := ["_law_source_here", "_law_small", "_law_drawn", "_law_k", "_law_pick"]
theorem sc_law_rings : FnScope N_law_rings ["_law_source_here"] (defScope s_law_rings) := ⟨rfl, rfl, rfl, by decide +kernel, rfl, by decide +kernel, by decide +kernel⟩
abbrev s_law_call : Stmt := top 27
abbrev N_law_call : List Str := ["_law_source_here", "_law_sizes", "_law_drawn", "_law_size", "_law_near", "_law_far"]
theorem sc_law_call : FnScope N_law_call ["_law_source_here", "_law_sizes"] (defScope s_law_call) := ⟨rfl, rfl, rfl, by decide +kernel, rfl, by decide +kernel, by decide +kernel⟩
abbrev s_law_odd_value : Stmt := top 28
abbrev N_law_odd_value : List Str := ["_law_source_here", "_law_some"]
theorem sc_law_odd_value : FnScope N_law_odd_value ["_law_source_here"] (defScope s_law_odd_value) := ⟨rfl, rfl, rfl, by decide +kernel, rfl, by decide +kernel, by decide +kernel⟩
abbrev s_law_raised : Stmt := top 29
abbrev N_law_raised : List Str := ["_law_attempt", "e", "_law_kinds"]
theorem sc_law_raised : FnScope N_law_raised ["_law_attempt"] (defScope s_law_raised) := ⟨rfl, rfl, rfl, by decide +kernel, rfl, by decide +kernel, by decide +kernel⟩
abbrev s_law_bad_rings : Stmt := top 30
abbrev N_law_bad_rings : List Str := ["_law_source_here", "_law_sizes", "_law_at", "_law_bent", "_law_some"]
theorem sc_law_bad_rings : FnScope N_law_bad_rings ["_law_source_here", "_law_sizes"] (defScope s_law_bad_rings) := ⟨rfl, rfl, rfl, by decide +kernel, rfl, by decide +kernel, by decide +kernel⟩
abbrev s_law_bad_seat : Stmt := top 31
abbrev N_law_bad_seat : List Str := ["_law_source_here", "_law_sizes", "_law_good", "_law_at", "_law_odd", "_law_bent", "_law_some", "_law_size"]
theorem sc_law_bad_seat : FnScope N_law_bad_seat ["_law_source_here", "_law_sizes"] (defScope s_law_bad_seat) := ⟨rfl, rfl, rfl, by decide +kernel, rfl, by decide +kernel, by decide +kernel⟩
abbrev s_law_bad_call : Stmt := top 32
abbrev N_law_bad_call : List Str := ["_law_source_here", "_law_sizes", "_law_good", "_law_odd", "_law_some"]
theorem sc_law_bad_call : FnScope N_law_bad_call ["_law_source_here", "_law_sizes"] (defScope s_law_bad_call) := ⟨rfl, rfl, rfl, by decide +kernel, rfl, by decide +kernel, by decide +kernel⟩
abbrev s_law_check : Stmt := top 33
abbrev N_law_check : List Str := ["_law_source_here", "_law_sizes", "_law_bad", "_law_board", "_law_last", "_law_odd", "_law_wrong", "_law_word", "_law_shift_by", "_law_attempts", "_law_size", "_law_attempt"]
theorem sc_law_check : FnScope N_law_check ["_law_source_here"] (defScope s_law_check) := ⟨rfl, rfl, rfl, by decide +kernel, rfl, by decide +kernel, by decide +kernel⟩
abbrev s_law_huge_values : Stmt := top 34
abbrev N_law_huge_values : List Str := ["_law_huge", "_law_board", "_law_stored", "_law_bad", "e"]
theorem sc_law_huge_values : FnScope N_law_huge_values [] (defScope s_law_huge_values) := ⟨rfl, rfl, rfl, by decide +kernel, rfl, by decide +kernel, by decide +kernel⟩
abbrev s_law : Stmt := top 35
abbrev N_law : List Str := ["_law_script", "_law_cell"]
theorem sc_law : FnScope N_law ["_law_script"] (defScope s_law) := ⟨rfl, rfl, rfl, by decide +kernel, rfl, by decide +kernel, by decide +kernel⟩
/-- what the top has written -/
structure TX (K : PySem.W.Frag) (mg : Str → Option Value) where
  C_SeatError : Addr
  m_SeatError : mg "SeatError" = some (.ref C_SeatError)
  C_InvalidWitness : Addr
  m_InvalidWitness : mg "InvalidWitness" = some (.ref C_InvalidWitness)
  C_InvalidTargets : Addr
  m_InvalidTargets : mg "InvalidTargets" = some (.ref C_InvalidTargets)
  f_InvalidTable_init : Addr
  fd_InvalidTable_init : FuncData
  F_InvalidTable_init : Fun K "__init__" "InvalidTable.__init__" s_InvalidTable_init f_InvalidTable_init fd_InvalidTable_init
  b_InvalidTable_init : Binds K fd_InvalidTable_init ["self", "rings"] []
  f_InvalidSeat_init : Addr
  fd_InvalidSeat_init : FuncData
  F_InvalidSeat_init : Fun K "__init__" "InvalidSeat.__init__" s_InvalidSeat_init f_InvalidSeat_init fd_InvalidSeat_init
  b_InvalidSeat_init : Binds K fd_InvalidSeat_init ["self", "seat"] []
  f_InvalidCall_init : Addr
  fd_InvalidCall_init : FuncData
  F_InvalidCall_init : Fun K "__init__" "InvalidCall.__init__" s_InvalidCall_init f_InvalidCall_init fd_InvalidCall_init
  b_InvalidCall_init : Binds K fd_InvalidCall_init ["self", "call"] []
  f_InvalidDirection_init : Addr
  fd_InvalidDirection_init : FuncData
  F_InvalidDirection_init : Fun K "__init__" "InvalidDirection.__init__" s_InvalidDirection_init f_InvalidDirection_init fd_InvalidDirection_init
  b_InvalidDirection_init : Binds K fd_InvalidDirection_init ["self", "direction"] []
  f_is_integer : Addr
  fd_is_integer : FuncData
  F_is_integer : Fun K "is_integer" "is_integer" s_is_integer f_is_integer fd_is_integer
  b_is_integer : Binds K fd_is_integer ["value"] []
  m_is_integer : mg "is_integer" = some (.ref f_is_integer)
  f_is_at_least : Addr
  fd_is_at_least : FuncData
  F_is_at_least : Fun K "is_at_least" "is_at_least" s_is_at_least f_is_at_least fd_is_at_least
  b_is_at_least : Binds K fd_is_at_least ["value", "low"] []
  m_is_at_least : mg "is_at_least" = some (.ref f_is_at_least)
  f_is_between : Addr
  fd_is_between : FuncData
  F_is_between : Fun K "is_between" "is_between" s_is_between f_is_between fd_is_between
  b_is_between : Binds K fd_is_between ["value", "low", "high"] []
  m_is_between : mg "is_between" = some (.ref f_is_between)
  f_greatest_common_divisor : Addr
  fd_greatest_common_divisor : FuncData
  F_greatest_common_divisor : Fun K "greatest_common_divisor" "greatest_common_divisor" s_greatest_common_divisor f_greatest_common_divisor fd_greatest_common_divisor
  b_greatest_common_divisor : Binds K fd_greatest_common_divisor ["first", "second"] []
  m_greatest_common_divisor : mg "greatest_common_divisor" = some (.ref f_greatest_common_divisor)
  f_Table_init : Addr
  fd_Table_init : FuncData
  F_Table_init : Fun K "__init__" "Table.__init__" s_Table_init f_Table_init fd_Table_init
  b_Table_init : Binds K fd_Table_init ["self", "rings"] []
  f_Table_sizes : Addr
  fd_Table_sizes : FuncData
  F_Table_sizes : Fun K "sizes" "Table.sizes" s_Table_sizes f_Table_sizes fd_Table_sizes
  b_Table_sizes : Binds K fd_Table_sizes ["self"] []
  f_Table_count : Addr
  fd_Table_count : FuncData
  F_Table_count : Fun K "count" "Table.count" s_Table_count f_Table_count fd_Table_count
  b_Table_count : Binds K fd_Table_count ["self"] []
  f_Table_is_seat : Addr
  fd_Table_is_seat : FuncData
  F_Table_is_seat : Fun K "is_seat" "Table.is_seat" s_Table_is_seat f_Table_is_seat fd_Table_is_seat
  b_Table_is_seat : Binds K fd_Table_is_seat ["self", "value"] []
  f_Table_is_call : Addr
  fd_Table_is_call : FuncData
  F_Table_is_call : Fun K "is_call" "Table.is_call" s_Table_is_call f_Table_is_call fd_Table_is_call
  b_Table_is_call : Binds K fd_Table_is_call ["self", "value"] []
  f_Table_shifted : Addr
  fd_Table_shifted : FuncData
  F_Table_shifted : Fun K "shifted" "Table.shifted" s_Table_shifted f_Table_shifted fd_Table_shifted
  b_Table_shifted : Binds K fd_Table_shifted ["self", "seat", "call", "factor"] []
  f_Table_moves : Addr
  fd_Table_moves : FuncData
  F_Table_moves : Fun K "moves" "Table.moves" s_Table_moves f_Table_moves fd_Table_moves
  b_Table_moves : Binds K fd_Table_moves ["self", "seat", "call"] []
  f_Table_step : Addr
  fd_Table_step : FuncData
  F_Table_step : Fun K "step" "Table.step" s_Table_step f_Table_step fd_Table_step
  b_Table_step : Binds K fd_Table_step ["self", "seat", "call", "direction"] []
  f_Table_order : Addr
  fd_Table_order : FuncData
  F_Table_order : Fun K "order" "Table.order" s_Table_order f_Table_order fd_Table_order
  b_Table_order : Binds K fd_Table_order ["self", "seat"] []
  f_Table_halves : Addr
  fd_Table_halves : FuncData
  F_Table_halves : Fun K "halves" "Table.halves" s_Table_halves f_Table_halves fd_Table_halves
  b_Table_halves : Binds K fd_Table_halves ["self", "seat"] []
  f_half_places : Addr
  fd_half_places : FuncData
  F_half_places : Fun K "half_places" "half_places" s_half_places f_half_places fd_half_places
  b_half_places : Binds K fd_half_places ["place", "size"] []
  m_half_places : mg "half_places" = some (.ref f_half_places)
  f_is_direction : Addr
  fd_is_direction : FuncData
  F_is_direction : Fun K "is_direction" "is_direction" s_is_direction f_is_direction fd_is_direction
  b_is_direction : Binds K fd_is_direction ["value"] []
  m_is_direction : mg "is_direction" = some (.ref f_is_direction)
  f_require_seat : Addr
  fd_require_seat : FuncData
  F_require_seat : Fun K "require_seat" "require_seat" s_require_seat f_require_seat fd_require_seat
  b_require_seat : Binds K fd_require_seat ["table", "seat"] []
  m_require_seat : mg "require_seat" = some (.ref f_require_seat)
  f_require_call : Addr
  fd_require_call : FuncData
  F_require_call : Fun K "require_call" "require_call" s_require_call f_require_call fd_require_call
  b_require_call : Binds K fd_require_call ["table", "call"] []
  m_require_call : mg "require_call" = some (.ref f_require_call)
  f_law_mixed : Addr
  fd_law_mixed : FuncData
  F_law_mixed : Fun K "_law_mixed" "_law_mixed" s_law_mixed f_law_mixed fd_law_mixed
  b_law_mixed : Binds K fd_law_mixed ["_law_cell", "_law_draw"] []
  m_law_mixed : mg "_law_mixed" = some (.ref f_law_mixed)
  f_law_source : Addr
  fd_law_source : FuncData
  F_law_source : Fun K "_law_source" "_law_source" s_law_source f_law_source fd_law_source
  b_law_source : Binds K fd_law_source ["_law_cell"] []
  m_law_source : mg "_law_source" = some (.ref f_law_source)
  f_law_take : Addr
  fd_law_take : FuncData
  F_law_take : Fun K "_law_take" "_law_take" s_law_take f_law_take fd_law_take
  b_law_take : Binds K fd_law_take ["_law_source_here", "_law_count"] []
  m_law_take : mg "_law_take" = some (.ref f_law_take)
  f_law_big : Addr
  fd_law_big : FuncData
  F_law_big : Fun K "_law_big" "_law_big" s_law_big f_law_big fd_law_big
  b_law_big : Binds K fd_law_big ["_law_source_here"] []
  m_law_big : mg "_law_big" = some (.ref f_law_big)
  f_law_rings : Addr
  fd_law_rings : FuncData
  F_law_rings : Fun K "_law_rings" "_law_rings" s_law_rings f_law_rings fd_law_rings
  b_law_rings : Binds K fd_law_rings ["_law_source_here"] []
  m_law_rings : mg "_law_rings" = some (.ref f_law_rings)
  f_law_call : Addr
  fd_law_call : FuncData
  F_law_call : Fun K "_law_call" "_law_call" s_law_call f_law_call fd_law_call
  b_law_call : Binds K fd_law_call ["_law_source_here", "_law_sizes"] []
  m_law_call : mg "_law_call" = some (.ref f_law_call)
  f_law_odd_value : Addr
  fd_law_odd_value : FuncData
  F_law_odd_value : Fun K "_law_odd_value" "_law_odd_value" s_law_odd_value f_law_odd_value fd_law_odd_value
  b_law_odd_value : Binds K fd_law_odd_value ["_law_source_here"] []
  m_law_odd_value : mg "_law_odd_value" = some (.ref f_law_odd_value)
  f_law_raised : Addr
  fd_law_raised : FuncData
  F_law_raised : Fun K "_law_raised" "_law_raised" s_law_raised f_law_raised fd_law_raised
  b_law_raised : Binds K fd_law_raised ["_law_attempt"] []
  m_law_raised : mg "_law_raised" = some (.ref f_law_raised)
  f_law_bad_rings : Addr
  fd_law_bad_rings : FuncData
  F_law_bad_rings : Fun K "_law_bad_rings" "_law_bad_rings" s_law_bad_rings f_law_bad_rings fd_law_bad_rings
  b_law_bad_rings : Binds K fd_law_bad_rings ["_law_source_here", "_law_sizes"] []
  m_law_bad_rings : mg "_law_bad_rings" = some (.ref f_law_bad_rings)
  f_law_bad_seat : Addr
  fd_law_bad_seat : FuncData
  F_law_bad_seat : Fun K "_law_bad_seat" "_law_bad_seat" s_law_bad_seat f_law_bad_seat fd_law_bad_seat
  b_law_bad_seat : Binds K fd_law_bad_seat ["_law_source_here", "_law_sizes"] []
  m_law_bad_seat : mg "_law_bad_seat" = some (.ref f_law_bad_seat)
  f_law_bad_call : Addr
  fd_law_bad_call : FuncData
  F_law_bad_call : Fun K "_law_bad_call" "_law_bad_call" s_law_bad_call f_law_bad_call fd_law_bad_call
  b_law_bad_call : Binds K fd_law_bad_call ["_law_source_here", "_law_sizes"] []
  m_law_bad_call : mg "_law_bad_call" = some (.ref f_law_bad_call)
  f_law_check : Addr
  fd_law_check : FuncData
  F_law_check : Fun K "_law_check" "_law_check" s_law_check f_law_check fd_law_check
  b_law_check : Binds K fd_law_check ["_law_source_here"] []
  m_law_check : mg "_law_check" = some (.ref f_law_check)
  f_law_huge_values : Addr
  fd_law_huge_values : FuncData
  F_law_huge_values : Fun K "_law_huge_values" "_law_huge_values" s_law_huge_values f_law_huge_values fd_law_huge_values
  b_law_huge_values : Binds K fd_law_huge_values [] []
  m_law_huge_values : mg "_law_huge_values" = some (.ref f_law_huge_values)
  f_law : Addr
  fd_law : FuncData
  F_law : Fun K "law" "law" s_law f_law fd_law
  b_law : Binds K fd_law ["_law_script"] []
  m_law : mg "law" = some (.ref f_law)
  C_InvalidTable : Addr
  m_InvalidTable : mg "InvalidTable" = some (.ref C_InvalidTable)
  ox_InvalidTable : OexC K C_InvalidTable
  xf_InvalidTable : XfC K C_InvalidTable
  i_InvalidTable : PySem.W.findIn K (.ref C_InvalidTable) "__init__" = some (some (.ref f_InvalidTable_init))
  ti_InvalidTable : PySem.W.typeIn K (.ref f_InvalidTable_init) = some (.type "function")
  em_InvalidTable : PySem.W.exmOne K (.ref C_InvalidTable) (.ref C_InvalidTable) = some true
  em_InvalidTable_SeatError : PySem.W.exmOne K (.ref C_InvalidTable) (.ref C_SeatError) = some true
  n_InvalidTable_rings : PySem.W.findIn K (.ref C_InvalidTable) "rings" = some none
  C_InvalidSeat : Addr
  m_InvalidSeat : mg "InvalidSeat" = some (.ref C_InvalidSeat)
  ox_InvalidSeat : OexC K C_InvalidSeat
  xf_InvalidSeat : XfC K C_InvalidSeat
  i_InvalidSeat : PySem.W.findIn K (.ref C_InvalidSeat) "__init__" = some (some (.ref f_InvalidSeat_init))
  ti_InvalidSeat : PySem.W.typeIn K (.ref f_InvalidSeat_init) = some (.type "function")
  em_InvalidSeat : PySem.W.exmOne K (.ref C_InvalidSeat) (.ref C_InvalidSeat) = some true
  em_InvalidSeat_SeatError : PySem.W.exmOne K (.ref C_InvalidSeat) (.ref C_SeatError) = some true
  n_InvalidSeat_seat : PySem.W.findIn K (.ref C_InvalidSeat) "seat" = some none
  C_InvalidCall : Addr
  m_InvalidCall : mg "InvalidCall" = some (.ref C_InvalidCall)
  ox_InvalidCall : OexC K C_InvalidCall
  xf_InvalidCall : XfC K C_InvalidCall
  i_InvalidCall : PySem.W.findIn K (.ref C_InvalidCall) "__init__" = some (some (.ref f_InvalidCall_init))
  ti_InvalidCall : PySem.W.typeIn K (.ref f_InvalidCall_init) = some (.type "function")
  em_InvalidCall : PySem.W.exmOne K (.ref C_InvalidCall) (.ref C_InvalidCall) = some true
  em_InvalidCall_SeatError : PySem.W.exmOne K (.ref C_InvalidCall) (.ref C_SeatError) = some true
  n_InvalidCall_call : PySem.W.findIn K (.ref C_InvalidCall) "call" = some none
  C_InvalidDirection : Addr
  m_InvalidDirection : mg "InvalidDirection" = some (.ref C_InvalidDirection)
  ox_InvalidDirection : OexC K C_InvalidDirection
  xf_InvalidDirection : XfC K C_InvalidDirection
  i_InvalidDirection : PySem.W.findIn K (.ref C_InvalidDirection) "__init__" = some (some (.ref f_InvalidDirection_init))
  ti_InvalidDirection : PySem.W.typeIn K (.ref f_InvalidDirection_init) = some (.type "function")
  em_InvalidDirection : PySem.W.exmOne K (.ref C_InvalidDirection) (.ref C_InvalidDirection) = some true
  em_InvalidDirection_SeatError : PySem.W.exmOne K (.ref C_InvalidDirection) (.ref C_SeatError) = some true
  n_InvalidDirection_direction : PySem.W.findIn K (.ref C_InvalidDirection) "direction" = some none
  C_Table : Addr
  cl_Table : Cls K C_Table
  m_Table : mg "Table" = some (.ref C_Table)
  M_Table : Mk K C_Table f_Table_init
  me_Table_sizes : Meth K C_Table "sizes" f_Table_sizes
  me_Table_count : Meth K C_Table "count" f_Table_count
  me_Table_is_seat : Meth K C_Table "is_seat" f_Table_is_seat
  me_Table_is_call : Meth K C_Table "is_call" f_Table_is_call
  me_Table_shifted : Meth K C_Table "shifted" f_Table_shifted
  me_Table_moves : Meth K C_Table "moves" f_Table_moves
  me_Table_step : Meth K C_Table "step" f_Table_step
  me_Table_order : Meth K C_Table "order" f_Table_order
  me_Table_halves : Meth K C_Table "halves" f_Table_halves
  n_Table_rings : NoAttr K C_Table "rings"
  xi_InvalidTable : CG.ExcI K C_InvalidTable
  xi_InvalidSeat : CG.ExcI K C_InvalidSeat
  xi_InvalidCall : CG.ExcI K C_InvalidCall
  xi_InvalidDirection : CG.ExcI K C_InvalidDirection
  ki_InvalidTable_InvalidSeat : PySem.W.kitAny K (.ref C_InvalidTable) [.ref C_InvalidSeat] = some false
  ki_InvalidTable_InvalidCall : PySem.W.kitAny K (.ref C_InvalidTable) [.ref C_InvalidCall] = some false
  ki_InvalidTable_InvalidDirection : PySem.W.kitAny K (.ref C_InvalidTable) [.ref C_InvalidDirection] = some false
  ki_InvalidTable_InvalidWitness : PySem.W.kitAny K (.ref C_InvalidTable) [.ref C_InvalidWitness] = some false
  ki_InvalidTable_InvalidTargets : PySem.W.kitAny K (.ref C_InvalidTable) [.ref C_InvalidTargets] = some false
  ki_InvalidTable_ValueError : PySem.W.kitAny K (.ref C_InvalidTable) [.type "ValueError"] = some true
  ki_InvalidSeat_InvalidTable : PySem.W.kitAny K (.ref C_InvalidSeat) [.ref C_InvalidTable] = some false
  ki_InvalidSeat_InvalidCall : PySem.W.kitAny K (.ref C_InvalidSeat) [.ref C_InvalidCall] = some false
  ki_InvalidSeat_InvalidDirection : PySem.W.kitAny K (.ref C_InvalidSeat) [.ref C_InvalidDirection] = some false
  ki_InvalidSeat_InvalidWitness : PySem.W.kitAny K (.ref C_InvalidSeat) [.ref C_InvalidWitness] = some false
  ki_InvalidSeat_InvalidTargets : PySem.W.kitAny K (.ref C_InvalidSeat) [.ref C_InvalidTargets] = some false
  ki_InvalidSeat_ValueError : PySem.W.kitAny K (.ref C_InvalidSeat) [.type "ValueError"] = some true
  ki_InvalidCall_InvalidTable : PySem.W.kitAny K (.ref C_InvalidCall) [.ref C_InvalidTable] = some false
  ki_InvalidCall_InvalidSeat : PySem.W.kitAny K (.ref C_InvalidCall) [.ref C_InvalidSeat] = some false
  ki_InvalidCall_InvalidDirection : PySem.W.kitAny K (.ref C_InvalidCall) [.ref C_InvalidDirection] = some false
  ki_InvalidCall_InvalidWitness : PySem.W.kitAny K (.ref C_InvalidCall) [.ref C_InvalidWitness] = some false
  ki_InvalidCall_InvalidTargets : PySem.W.kitAny K (.ref C_InvalidCall) [.ref C_InvalidTargets] = some false
  ki_InvalidCall_ValueError : PySem.W.kitAny K (.ref C_InvalidCall) [.type "ValueError"] = some true
  ki_InvalidDirection_InvalidTable : PySem.W.kitAny K (.ref C_InvalidDirection) [.ref C_InvalidTable] = some false
  ki_InvalidDirection_InvalidSeat : PySem.W.kitAny K (.ref C_InvalidDirection) [.ref C_InvalidSeat] = some false
  ki_InvalidDirection_InvalidCall : PySem.W.kitAny K (.ref C_InvalidDirection) [.ref C_InvalidCall] = some false
  ki_InvalidDirection_InvalidWitness : PySem.W.kitAny K (.ref C_InvalidDirection) [.ref C_InvalidWitness] = some false
  ki_InvalidDirection_InvalidTargets : PySem.W.kitAny K (.ref C_InvalidDirection) [.ref C_InvalidTargets] = some false
  ki_InvalidDirection_ValueError : PySem.W.kitAny K (.ref C_InvalidDirection) [.type "ValueError"] = some true
  t_MAX_RINGS : Tok
  c_MAX_RINGS : mg "MAX_RINGS" = some (.int 4 t_MAX_RINGS)
  z_ValueError : mg "ValueError" = none
  z_abs : mg "abs" = none
  z_all : mg "all" = none
  z_bool : mg "bool" = none
  z_int : mg "int" = none
  z_isinstance : mg "isinstance" = none
  z_len : mg "len" = none
  z_list : mg "list" = none
  z_min : mg "min" = none
  z_range : mg "range" = none
  z_repr : mg "repr" = none
  z_str : mg "str" = none
  z_tuple : mg "tuple" = none
  z_zip : mg "zip" = none
/-- the code objects and tables of the defs that make lambdas -/
structure TL {K : PySem.W.Frag} {mg : Str → Option Value} (T : TX K mg) (base : Heap) where
  c_law_check : Addr
  p_law_check : Addr
  at_law_check : T.fd_law_check.code = .ref c_law_check
  tb_law_check : LamX.TabB base mg c_law_check p_law_check
  sysb : CG.SysB base
/-- not an int (a bool is none) -/
def NotI (K : PySem.W.Frag) (H : Hp) (x : V) : Prop := ∃ t b1 b2, TyX K H x t ∧ PySem.W.kitOne K t (.type "int") = some b1 ∧ PySem.W.kitOne K t (.type "bool") = some b2 ∧ (b1 && !b2) = false
/-- what x is, if an int -/
def IsI (K : PySem.W.Frag) (H : Hp) (x : V) : Option Int → Prop
  | some i => x = .int i
  | none => NotI K H x
def atLeast : Option Int → Int → Bool
  | some i, low => decide (low ≤ i)
  | none, _ => false
def between : Option Int → Int → Int → Bool
  | some i, low, high => decide (low ≤ i) && decide (i ≤ high)
  | none, _, _ => false

section
variable {P : Program} {w : World} {K : PySem.W.Frag} {mg : Str → Option Value} {base : Heap}
def sp_is_integer (K : PySem.W.Frag) : Sp := fun vs H Q _ => ∃ x o, vs = [x] ∧ IsI K H x o ∧ Q (.bl o.isSome) H
theorem ok_is_integer (T : TX K mg) : FnOk P w K mg base CX0 1 T.f_is_integer T.fd_is_integer ["value"] (sp_is_integer K) := by
  refine T.F_is_integer.ok sc_is_integer (fun vs H Q E h => ?_) (fun cdv A outer s H vs Q E hr h => ?_)
  · obtain ⟨x, o, rfl, _⟩ := h
    rfl
  · obtain ⟨x, o, rfl, hx, k⟩ := h
    refine ⟨_, (pss_one (ps_ret (pe_and (pe_callB call_isi (by rfl) T.z_isinstance (by decide +kernel) (pa_cons (pv 0) (pa_cons (pe_bltn (v := .ty "int") rfl T.z_int (by decide +kernel) rfl) pa_nil))) (pe_one (pe_not (pe_callB call_isi (by rfl) T.z_isinstance (by decide +kernel) (pa_cons (pv 0) (pa_cons (pe_bltn (v := .ty "bool") rfl T.z_bool (by decide +kernel) rfl) pa_nil)))))))), ?_⟩
    cases o with
    | some i =>
      cases hx
      exact ⟨_, rfl, _, _, _, _, true, rfl, .ty _, .base (.int i), kit_ty (by decide +kernel), _, rfl, _, rfl, _, _, _, _, false, rfl, .ty _, .base (.int i), kit_ty (by decide +kernel), _, rfl, k⟩
    | none =>
      obtain ⟨t, b1, b2, ht, h1, h2, hb⟩ := hx
      refine ⟨_, rfl, _, _, _, _, b1, rfl, .ty _, ht, h1, _, rfl, ?_⟩
      cases b1 with
      | false => exact k
      | true =>
        refine ⟨_, rfl, _, _, _, _, b2, rfl, .ty _, ht, h2, _, rfl, ?_⟩
        have e : (!b2) = false := hb
        rw [e]
        exact k
def sp_is_at_least (K : PySem.W.Frag) : Sp := fun vs H Q _ => ∃ x o low, vs = [x, .int low] ∧ IsI K H x o ∧ Q (.bl (atLeast o low)) H
theorem ok_is_at_least (T : TX K mg) : FnOk P w K mg base CX0 2 T.f_is_at_least T.fd_is_at_least ["value", "low"] (sp_is_at_least K) := by
  refine T.F_is_at_least.ok sc_is_at_least (fun vs H Q E h => ?_) (fun cdv A outer s H vs Q E hr h => ?_)
  · obtain ⟨x, o, low, rfl, _⟩ := h
    rfl
  · obtain ⟨x, o, low, rfl, hx, k⟩ := h
    refine ⟨_, (pss_one (ps_ret (pe_and (pe_call (ok_is_integer T) hr rfl T.m_is_integer T.F_is_integer.kp T.b_is_integer .nil pass0 (pa_cons (pv 0) pa_nil)) (pe_one (pe_cmpR op_ge (pv 0) (pv 1) (nomark _)))))), ?_⟩
    refine ⟨_, rfl, x, o, rfl, hx, _, rfl, ?_⟩
    cases o with
    | none => exact k
    | some i =>
      cases hx
      exact ⟨_, rfl, _, rfl, _, _, rfl, rfl, k⟩
def sp_is_between (K : PySem.W.Frag) : Sp := fun vs H Q _ => ∃ x o low high, vs = [x, .int low, .int high] ∧ IsI K H x o ∧ Q (.bl (between o low high)) H
theorem ok_is_between (T : TX K mg) : FnOk P w K mg base CX0 2 T.f_is_between T.fd_is_between ["value", "low", "high"] (sp_is_between K) := by
  refine T.F_is_between.ok sc_is_between (fun vs H Q E h => ?_) (fun cdv A outer s H vs Q E hr h => ?_)
  · obtain ⟨x, o, low, high, rfl, _⟩ := h
    rfl
  · obtain ⟨x, o, low, high, rfl, hx, k⟩ := h
    refine ⟨_, (pss_one (ps_ret (pe_and (pe_call (ok_is_integer T) hr rfl T.m_is_integer T.F_is_integer.kp T.b_is_integer .nil pass0 (pa_cons (pv 0) pa_nil)) (pe_one (pe_chain op_le op_le (pv 1) (pv 0) (pv 2)))))), ?_⟩
    refine ⟨_, rfl, x, o, rfl, hx, _, rfl, ?_⟩
    cases o with
    | none => exact k
    | some i =>
      cases hx
      refine ⟨_, rfl, _, rfl, _, _, rfl, rfl, _, rfl, ?_⟩
      refine ite2 (fun c => ?_) (fun c => ?_)
      · have c1 : low ≤ i := of_decide_eq_true c
        refine ⟨_, rfl, _, _, rfl, rfl, ?_⟩
        have e : between (some i) low high = decide (i ≤ high) := by show (decide (low ≤ i) && decide (i ≤ high)) = _; rw [c]; rfl
        rw [e] at k
        exact k
      · have e : between (some i) low high = false := by show (decide (low ≤ i) && decide (i ≤ high)) = _; rw [Bool.eq_false_iff.mpr c]; rfl
        rw [e] at k
        exact k
end

/-- a table of these sizes stands at a -/
def TabAt (C : Addr) (H : Hp) (a : Addr) (ns : List Int) : Prop := ∃ dx t, H a = some (.ins C dx [("rings", .ref t)]) ∧ H t = some (.tup (ns.map V.int))
theorem TabAt.mono {C : Addr} {H H2 : Hp} {a : Addr} {ns : List Int} (e : Ex H H2) (h : TabAt C H a ns) : TabAt C H2 a ns := by
  obtain ⟨dx, t, h1, h2⟩ := h
  exact ⟨dx, t, e _ _ h1, e _ _ h2⟩
/-- a tracked list (false) or tuple (true) -/
def SqH (H : Hp) (p : Bool × Addr) (xs : List V) : Prop := if p.1 = true then H p.2 = some (.tup xs) else H p.2 = some (.lst xs)
theorem SqH.sq {K : PySem.W.Frag} {H : Hp} {p : Bool × Addr} {xs : List V} (h : SqH H p xs) : CZ.SqK K H p xs := by
  obtain ⟨b, a⟩ := p
  cases b
  · exact SqL.of (show H a = some (.lst xs) from h)
  · exact SqT.of (show H a = some (.tup xs) from h)
theorem SqH.mono {H H2 : Hp} {p : Bool × Addr} {xs : List V} (e : Ex H H2) (h : SqH H p xs) : SqH H2 p xs := by
  obtain ⟨b, a⟩ := p
  cases b
  · exact e _ _ (show H a = some (.lst xs) from h)
  · exact e _ _ (show H a = some (.tup xs) from h)
theorem SqH.ty {K : PySem.W.Frag} {H : Hp} {p : Bool × Addr} {xs : List V} (h : SqH H p xs) : TyX K H (.ref p.2) (.type (if p.1 = true then "tuple" else "list")) := by
  obtain ⟨b, a⟩ := p
  cases b
  · exact .base (.lst (show H a = some (.lst xs) from h))
  · exact .base (.tup (show H a = some (.tup xs) from h))
/-- sizes of a table -/
structure SzOk (ns : List Int) : Prop where
  pos : ns ≠ []
  le : ns.length ≤ 4
  one : ∀ n ∈ ns, 1 ≤ n
theorem len_line {α : Type} {l : List α} (h : l.length ≤ 4) : l.length ≤ sizeLine := Nat.le_trans h (by decide)
theorem take_lt {α : Type} {l : List α} (h : l.length ≤ 1000) (i : Nat) : (l.take i).length < sizeLine := by
  rw [List.length_take]
  exact Nat.lt_of_le_of_lt (Nat.le_trans (Nat.min_le_right _ _) h) (by decide)
theorem take_more {α : Type} {l : List α} {i : Nat} {x : α} (h : l[i]? = some x) : l.take (i + 1) = l.take i ++ [x] := by
  rw [List.take_add_one, h]
  rfl
theorem kit_seq {K : PySem.W.Frag} (b : Bool) : PySem.W.kitAny K (.type (if b = true then "tuple" else "list")) [.type "list", .type "tuple"] = some true := by
  cases b
  · exact kitAny_cons (b := true) (kit_ty (by decide +kernel)) (fun h => nomatch h) (fun _ => rfl)
  · exact kitAny_cons (b := false) (kit_ty (by decide +kernel)) (fun _ => kitAny_cons (b := true) (kit_ty (by decide +kernel)) (fun h => nomatch h) (fun _ => rfl)) (fun h => nomatch h)
theorem sq_or {K : PySem.W.Frag} {H : Hp} {b : Bool} {a : Addr} {xs : List V} (h : SqH H (b, a) xs) : SqL K H a xs ∨ SqT K H a xs := by
  cases b
  · exact .inl (SqL.of (show H a = some (.lst xs) from h))
  · exact .inr (SqT.of (show H a = some (.tup xs) from h))
section
variable {P : Program} {w : World} {K : PySem.W.Frag} {mg : Str → Option Value} {base : Heap}
def sp_Table_init (C : Addr) : Sp := fun vs H Q _ => ∃ (p dx : Addr) (q : Bool × Addr) (ns : List Int), vs = [.ref p, .ref q.2] ∧ H p = some (.ins C dx []) ∧ SqH H q (ns.map V.int) ∧ SzOk ns ∧
  ∀ H2, (∀ c o, c ≠ p → H c = some o → H2 c = some o) → (∃ t, H2 p = some (.ins C dx [("rings", .ref t)]) ∧ H2 t = some (.tup (ns.map V.int))) → Q .non H2
theorem ok_Table_init (T : TX K mg) : FnOk P w K mg base CX0 3 T.f_Table_init T.fd_Table_init ["self", "rings"] (sp_Table_init T.C_Table) := by
  refine T.F_Table_init.ok sc_Table_init (fun vs H Q E h => ?_) (fun cdv A outer s H vs Q E hr h => ?_)
  · obtain ⟨p, dx, q, ns, rfl, _⟩ := h
    rfl
  · obtain ⟨p, dx, ⟨b, a⟩, ns, rfl, hp, hq, ok, k⟩ := h
    refine ⟨_, (pss_cons (ps_if (PW.pt (pw_or (pt_not (pt_val (pe_callB call_isiT (by rfl) T.z_isinstance (by decide +kernel) (pa_cons (pv 1) (pa_cons (pe_tup (pa_cons (pe_bltn (v := .ty "list") rfl T.z_list (by decide +kernel) rfl) (pa_cons (pe_bltn (v := .ty "tuple") rfl T.z_tuple (by decide +kernel) rfl) pa_nil))) pa_nil))))) (pw_or1 (pt_not (pt_chain op_le op_le pe_int (pe_callB call_len_seq (by rfl) T.z_len (by decide +kernel) (pa_cons (pv 1) pa_nil)) (pe_glob (v := .int 4) rfl T.c_MAX_RINGS ⟨_, rfl⟩)))))) pss_never pss_nil) (pss_cons (ps_if (pt_not (pt_val (pe_callB (cr_all rfl) (by rfl) T.z_all (by decide +kernel) (pa_cons (pe_lc (own := [("size", 2)]) (g := (gName 2)) rfl sc_Table_init.nd (pi_seq (pv 1)) (blkOk_by (N := N_Table_init) (sc := defScope s_Table_init) (by decide +kernel)) (fun _ _ _ _ _ => (pg_name (i := 2) sc_Table_init.nd rfl (Or.inl rfl))) (fun _ _ _ _ _ => pts_nil) (fun _ _ _ _ _ => (pe_call (ok_is_at_least T) hr rfl T.m_is_at_least T.F_is_at_least.kp T.b_is_at_least .nil pass0 (pa_cons (pv 2) (pa_cons pe_int pa_nil))))) pa_nil)))) pss_never pss_nil) (pss_one (ps_fld (pv 0) (pe_callTy call_tuple_of (by rfl) T.z_tuple (by decide +kernel) (pa_cons (pv 1) pa_nil)) rfl)))), ?_⟩
    refine ⟨_, rfl, by show 2 ≤ sizeLine; decide, fun y hy => ?_⟩
    refine ⟨_, y, _, _, _, true, rfl, upd_same, .cons (.ty _) (.cons (.ty _) .nil), (hq.mono (exn hy)).ty, kit_seq b, _, rfl, iteF ?_⟩
    have q1 := hq.mono (exn (o := .tup [.ty "list", .ty "tuple"]) hy)
    have lp : 1 ≤ ns.length := List.length_pos_iff.mpr ok.pos
    have l4 := ok.le
    refine ⟨_, rfl, a, _, rfl, sq_or q1, _, _, rfl, rfl, _, rfl, itt (decide_eq_true (by rw [List.length_map]; omega)) ?_⟩
    refine ⟨_, _, rfl, rfl, _, rfl, itf ?_ ?_⟩
    · rw [List.length_map, decide_eq_true (by omega)]
      rfl
    · have all1 : (ns.map fun n => atLeast (some n) 1).all id = true := by
        rw [List.all_map, List.all_eq_true]
        exact fun n hn => decide_eq_true (ok.one n hn)
      refine ⟨_, rfl, (b, a), rfl, ⟨_, q1.sq⟩, fun D hD => ?_⟩
      refine lc_vals walk_seq ((ns.map fun n => atLeast (some n) 1).map V.bl) (by simp) (by rw [List.length_map]; omega) hD (fun H3 e => (q1.mono e).sq) ?_ gmono_name ?_
      · intro i x H3 H4 R hi e yy kk
        obtain ⟨rfl, hx⟩ := yy
        obtain ⟨n, hn, rfl⟩ := map_get hx
        exact ⟨rfl, _, rfl, _, some n, 1, rfl, rfl, kk _ _ exr (by simp [hn])⟩
      · intro H3 e hD3
        have hp3 := e _ _ (exn hy _ _ hp)
        have q3 := q1.mono e
        have ex3 : Ex H H3 := fun c o z => e _ _ (exn hy _ _ z)
        refine ⟨D, _, rfl, SqL.of hD3, _, rfl, itf (by rw [all1]; rfl) ?_⟩
        cases b with
        | false =>
          refine ⟨_, rfl, a, _, rfl, .inl ⟨SqL.of q3, fun l hl => ?_⟩⟩
          have npl : p ≠ l := ne_of_none hp3 hl
          refine ⟨_, rfl, p, _, dx, _, rfl, (by rw [upd_ne npl]; exact hp3), T.cl_Table, T.n_Table_rings, (by show 0 < 1000; decide), ?_⟩
          refine k _ (fun c o hc z => ?_) ⟨l, upd_same, by rw [upd_ne npl.symm, upd_same]⟩
          rw [upd_ne hc, upd_ne (ne_of_none (ex3 c o z) hl)]
          exact ex3 c o z
        | true =>
          refine ⟨_, rfl, a, _, rfl, .inr ⟨SqT.of q3, ?_⟩⟩
          refine ⟨_, rfl, p, _, dx, _, rfl, hp3, T.cl_Table, T.n_Table_rings, (by show 0 < 1000; decide), ?_⟩
          have q3 : H3 a = some (.tup (ns.map V.int)) := q3
          refine k _ (fun c o hc z => ?_) ⟨a, upd_same, by rw [upd_ne (ne_of q3 hp3 (by intro z; cases z))]; exact q3⟩
          rw [upd_ne hc]
          exact ex3 c o z
end

theorem TyX.mono {K : PySem.W.Frag} {H H2 : Hp} {x : V} {t : Value} (e : Ex H H2) (h : TyX K H x t) : TyX K H2 x t := by
  cases h with
  | base h =>
    cases h with
    | non => exact .base .non
    | bl x => exact .base (.bl x)
    | int x => exact .base (.int x)
    | str x => exact .base (.str x)
    | flt x => exact .base (.flt x)
    | lst h => exact .base (.lst (e _ _ h))
    | frz h => exact .base (.frz (e _ _ h))
    | tup h => exact .base (.tup (e _ _ h))
    | dK h => exact .base (.dK (e _ _ h))
    | dT h => exact .base (.dT (e _ _ h))
    | ins h a b c d f => exact .base (.ins (e _ _ h) a b c d f)
  | byt b => exact .byt b
  | set h => exact .set (e _ _ h)
  | kList a b => exact .kList a b
  | kTuple a b => exact .kTuple a b
  | kDict a b => exact .kDict a b
  | fTuple h => exact .fTuple (e _ _ h)
  | fDict h => exact .fDict (e _ _ h)
theorem IsI.mono {K : PySem.W.Frag} {H H2 : Hp} {x : V} {o : Option Int} (e : Ex H H2) (h : IsI K H x o) : IsI K H2 x o := by
  cases o with
  | some i => exact h
  | none =>
    obtain ⟨t, b1, b2, ht, r⟩ := h
    exact ⟨t, b1, b2, TyX.mono e ht, r⟩
theorem paired_get {α β : Type} {R : α → β → Prop} : ∀ {l : List α} {m : List β} {i : Nat} {x : α}, Paired R l m → l[i]? = some x → ∃ y, m[i]? = some y ∧ R x y
  | _, _, _, _, .nil, h => by simp at h
  | _, _, 0, _, .cons r _, h => by simp at h; subst h; exact ⟨_, rfl, r⟩
  | _, _, i + 1, x, .cons _ t, h => by
    obtain ⟨y, h1, h2⟩ := paired_get (i := i) (x := x) t (by simpa using h)
    exact ⟨y, by simpa using h1, h2⟩
/-- what an argument is as a tuple: its items, as ints or not -/
def TupA (K : PySem.W.Frag) (H : Hp) (x : V) : Option (List (Option Int)) → Prop
  | some os => ∃ a xs, x = .ref a ∧ H a = some (.tup xs) ∧ xs.length ≤ 1000 ∧ Paired (IsI K H) xs os
  | none => ∃ t, TyX K H x t ∧ PySem.W.kitOne K t (.type "tuple") = some false
theorem paired_ints {K : PySem.W.Frag} {H : Hp} : ∀ ps : List Int, Paired (IsI K H) (ps.map V.int) (ps.map some)
  | [] => .nil
  | p :: ps => .cons rfl (paired_ints ps)
theorem TupA.ints {K : PySem.W.Frag} {H : Hp} {a : Addr} {ps : List Int} (h : H a = some (.tup (ps.map V.int))) (hl : ps.length ≤ 1000) : TupA K H (.ref a) (some (ps.map some)) :=
  ⟨a, _, rfl, h, by rw [List.length_map]; exact hl, paired_ints ps⟩
def isSeatO (ns : List Int) : Option (List (Option Int)) → Bool
  | some os => decide (os.length = ns.length) && (List.zipWith (fun o n => between o 0 (n - 1)) os ns).all id
  | none => false
def isCallO (ns : List Int) : Option (List (Option Int)) → Bool
  | some os => decide (os.length = ns.length) && (os.map Option.isSome).all id
  | none => false
/-- a seat: one place a ring -/
def SeatOk : List Int → List Int → Prop
  | n :: ns, p :: ps => (0 ≤ p ∧ p < n) ∧ SeatOk ns ps
  | [], [] => True
  | _, _ => False
theorem SeatOk.len : ∀ {ns ps : List Int}, SeatOk ns ps → ps.length = ns.length
  | [], [], _ => rfl
  | _ :: _, _ :: _, h => by
    show _ + 1 = _ + 1
    rw [SeatOk.len h.2]
theorem seat_is : ∀ {ns ps : List Int}, SeatOk ns ps → (List.zipWith (fun o n => between o 0 (n - 1)) (ps.map some) ns).all id = true
  | [], [], _ => rfl
  | n :: ns, p :: ps, h => by
    have ih := seat_is h.2
    show (between (some p) 0 (n - 1) && _) = true
    rw [Bool.and_eq_true]
    refine ⟨?_, ih⟩
    show (decide (0 ≤ p) && decide (p ≤ n - 1)) = true
    rw [decide_eq_true h.1.1, decide_eq_true (by have := h.1.2; omega)]
    rfl
theorem isSeat_ok {ns ps : List Int} (h : SeatOk ns ps) : isSeatO ns (some (ps.map some)) = true := by
  show (decide ((ps.map some).length = ns.length) && _) = true
  rw [Bool.and_eq_true]
  exact ⟨decide_eq_true (by rw [List.length_map]; exact h.len), seat_is h⟩
theorem isCall_ok {ns cs : List Int} (h : cs.length = ns.length) : isCallO ns (some (cs.map some)) = true := by
  show (decide ((cs.map some).length = ns.length) && _) = true
  rw [Bool.and_eq_true]
  refine ⟨decide_eq_true (by rw [List.length_map]; exact h), ?_⟩
  rw [List.map_map, List.all_map, List.all_eq_true]
  exact fun _ _ => rfl
/-- a step by a multiple of a call -/
def shiftL : List Int → List Int → List Int → Int → List Int
  | n :: ns, p :: ps, c :: cs, f => (p + f * c) % n :: shiftL ns ps cs f
  | _, _, _, _ => []
theorem shift_len : ∀ {ns ps cs : List Int} {f : Int}, ps.length = ns.length → cs.length = ns.length → (shiftL ns ps cs f).length = ns.length
  | [], _, _, _, _, _ => by simp [shiftL]
  | _ :: ns, p :: ps, c :: cs, f, h1, h2 => by
    have ih := @shift_len ns ps cs f (by simpa using h1) (by simpa using h2)
    show (shiftL ns ps cs f).length + 1 = _ + 1
    rw [ih]
theorem shift_get : ∀ {ns ps cs : List Int} {f : Int} {i : Nat} {n p c : Int}, ns[i]? = some n → ps[i]? = some p → cs[i]? = some c → (shiftL ns ps cs f)[i]? = some ((p + f * c) % n)
  | n :: ns, p :: ps, c :: cs, f, 0, _, _, _, h1, h2, h3 => by
    simp at h1 h2 h3
    subst h1 h2 h3
    rfl
  | n :: ns, p :: ps, c :: cs, f, i + 1, a, b, d, h1, h2, h3 => by
    have ih := @shift_get ns ps cs f i a b d (by simpa using h1) (by simpa using h2) (by simpa using h3)
    show (shiftL ns ps cs f)[i]? = _
    exact ih
  | [], _, _, _, i, _, _, _, h1, _, _ => by simp at h1
  | _ :: _, [], _, _, i, _, _, _, _, h2, _ => by simp at h2
  | _ :: _, _ :: _, [], _, i, _, _, _, _, _, h3 => by simp at h3
theorem mul_ok {i j : Int} (h : (-(2 ^ 64) < i ∧ i < 2 ^ 64) ∨ (-(2 ^ 64) < j ∧ j < 2 ^ 64)) : IntMulOk i j := CMul.ok h
theorem zip_get {α β γ : Type} {f : α → β → γ} {l : List α} {m : List β} {i : Nat} {x : α} {y : β} (h1 : l[i]? = some x) (h2 : m[i]? = some y) : (List.zipWith f l m)[i]? = some (f x y) := by
  rw [List.getElem?_zipWith, h1, h2]
section
variable {P : Program} {w : World} {K : PySem.W.Frag} {mg : Str → Option Value} {base : Heap}
def sp_Table_sizes (C : Addr) : Sp := fun vs H Q _ => ∃ (a dx t : Addr), vs = [.ref a] ∧ H a = some (.ins C dx [("rings", .ref t)]) ∧ Q (.ref t) H
theorem ok_Table_sizes (T : TX K mg) : FnOk P w K mg base CX0 1 T.f_Table_sizes T.fd_Table_sizes ["self"] (sp_Table_sizes T.C_Table) := by
  refine T.F_Table_sizes.ok sc_Table_sizes (fun vs H Q E h => ?_) (fun cdv A outer s H vs Q E hr h => ?_)
  · obtain ⟨a, dx, t, rfl, _⟩ := h
    rfl
  · obtain ⟨a, dx, t, rfl, h1, k⟩ := h
    exact ⟨_, (pss_one (ps_ret (pe_fld (pv 0) rfl))), ⟨_, rfl, a, _, dx, _, _, rfl, h1, T.cl_Table, T.n_Table_rings, rfl, k⟩⟩
def sp_Table_is_seat (K : PySem.W.Frag) (C : Addr) : Sp := fun vs H Q _ => ∃ (a : Addr) (x : V) (ns : List Int) (ot : Option (List (Option Int))), vs = [.ref a, x] ∧ TabAt C H a ns ∧ ns.length ≤ 4 ∧ TupA K H x ot ∧ ∀ H2, Ex H H2 → Q (.bl (isSeatO ns ot)) H2
theorem ok_Table_is_seat (T : TX K mg) : FnOk P w K mg base CX0 3 T.f_Table_is_seat T.fd_Table_is_seat ["self", "value"] (sp_Table_is_seat K T.C_Table) := by
  refine T.F_Table_is_seat.ok sc_Table_is_seat (fun vs H Q E h => ?_) (fun cdv A outer s H vs Q E hr h => ?_)
  · obtain ⟨a, x, ns, ot, rfl, _⟩ := h
    rfl
  · obtain ⟨a, x, ns, ot, rfl, ⟨dx, t, h1, h2⟩, l4, hx, k⟩ := h
    refine ⟨_, (pss_cons (ps_if (PW.pt (pw_or (pt_not (pt_val (pe_callB call_isi (by rfl) T.z_isinstance (by decide +kernel) (pa_cons (pv 1) (pa_cons (pe_bltn (v := .ty "tuple") rfl T.z_tuple (by decide +kernel) rfl) pa_nil))))) (pw_or1 (pt_cmpR op_ne (pe_callB call_len_seq (by rfl) T.z_len (by decide +kernel) (pa_cons (pv 1) pa_nil)) (pe_callB call_len_seq (by rfl) T.z_len (by decide +kernel) (pa_cons (pe_fld (pv 0) rfl) pa_nil)) (nomark _))))) (pss_one (ps_ret pe_bl)) pss_nil) (pss_one (ps_ret (pe_callB (cr_all rfl) (by rfl) T.z_all (by decide +kernel) (pa_cons (pe_lc (own := [("place", 2), ("size", 3)]) (g := (gTup K 2 (gCons (gName 2) (gCons (gName 3) gNil)))) rfl sc_Table_is_seat.nd (CZ.pi_z2s (fl := [true, true]) rfl (by rfl) T.z_zip (pa_cons (pv 1) (pa_cons (pe_fld (pv 0) rfl) pa_nil))) (blkOk_by (N := N_Table_is_seat) (sc := defScope s_Table_is_seat) (by decide +kernel)) (fun _ _ _ _ _ => (pg_tup rfl (pgs_cons (pg_name (i := 2) sc_Table_is_seat.nd rfl (Or.inl rfl)) (pgs_cons (pg_name (i := 3) sc_Table_is_seat.nd rfl (Or.inl rfl)) pgs_nil)))) (fun _ _ _ _ _ => pts_nil) (fun _ _ _ _ _ => (pe_call (ok_is_between T) hr rfl T.m_is_between T.F_is_between.kp T.b_is_between .nil pass0 (pa_cons (pv 2) (pa_cons pe_int (pa_cons (pe_op op_sub (pv 3) pe_int) pa_nil)))))) pa_nil))))), ?_⟩
    cases ot with
    | none =>
      obtain ⟨ty, hty, hk⟩ := hx
      exact ⟨_, rfl, _, _, _, _, false, rfl, .ty _, hty, hk, _, rfl, k _ exr⟩
    | some os =>
      obtain ⟨v, xs, rfl, hv, hl, hp⟩ := hx
      have lo : xs.length = os.length := Paired.length hp
      refine ⟨_, rfl, _, _, _, _, true, rfl, .ty _, .base (.tup hv), kit_ty (by decide +kernel), _, rfl, iteF ?_⟩
      refine ⟨_, rfl, v, _, rfl, .inr (SqT.of hv), _, rfl, a, _, dx, _, _, rfl, h1, T.cl_Table, T.n_Table_rings, rfl, t, _, rfl, .inr (SqT.of h2), rfl, _, rfl, ?_⟩
      by_cases c : os.length = ns.length
      · refine itf ?_ ?_
        · rw [List.length_map, lo, c]
          simp
        · refine ⟨_, rfl, _, rfl, a, _, dx, _, _, rfl, h1, T.cl_Table, T.n_Table_rings, rfl, [v, t], rfl, rfl, ?_, fun D hD => ?_⟩
          · intro p hp2
            rcases List.mem_cons.mp (show p ∈ [(true, v), (true, t)] from hp2) with e | e
            · rw [e]; exact ⟨xs, SqT.of hv⟩
            · rw [List.mem_singleton.mp e]; exact ⟨_, SqT.of h2⟩
          · have lv : (List.zipWith (fun o n => between o 0 (n - 1)) os ns).length = ns.length := by rw [List.length_zipWith, c, Nat.min_self]
            refine lc_vals (CZ.walk_rows (xss := [xs, ns.map V.int]) (n := ns.length) ?_) ((List.zipWith (fun o n => between o 0 (n - 1)) os ns).map V.bl) (by rw [List.length_map, lv]) (by omega) hD (fun H3 e => .cons (SqT.of (e _ _ hv)) (.cons (SqT.of (e _ _ h2)) .nil)) ?_ (gmono_tup (gmono_cons gmono_name (gmono_cons gmono_name gmono_nil))) ?_
            · intro ys hy
              rcases List.mem_cons.mp hy with e | e
              · rw [e, lo, c]
              · rw [List.mem_singleton.mp e, List.length_map]
            · intro i y H3 H4 R hi e yy kk
              obtain ⟨Ta, vs, rfl, hT, rfl, hr2⟩ := yy
              cases hr2 with
              | cons r1 hr2 =>
                cases hr2 with
                | cons r2 hr2 =>
                  cases hr2
                  obtain ⟨n, hn, rfl⟩ := map_get r2
                  obtain ⟨o, ho, hi2⟩ := paired_get hp r1
                  refine ⟨Ta, _, rfl, SqT.of upd_same, rfl, _, _, rfl, _, _, rfl, rfl, rfl, ?_⟩
                  refine ⟨_, rfl, _, rfl, _, _, rfl, rfl, _, o, 0, n - 1, rfl, hi2.mono (fun b u z => exn hT b u (e b u z)), ?_⟩
                  refine kk _ _ (exn hT) ?_
                  rw [List.getElem?_map, zip_get ho hn]
                  rfl
            · intro H3 e hD3
              refine ⟨D, _, rfl, SqL.of hD3, ?_⟩
              have es : isSeatO ns (some os) = (List.zipWith (fun o n => between o 0 (n - 1)) os ns).all id := by
                show (decide _ && _) = _
                rw [decide_eq_true c, Bool.true_and]
              rw [← es]
              exact k _ e
      · refine itt ?_ ?_
        · rw [List.length_map, lo]
          simp
          omega
        · have es : isSeatO ns (some os) = false := by
            show (decide _ && _) = _
            rw [decide_eq_false c, Bool.false_and]
          have := k _ exr
          rw [es] at this
          exact this
end

/-- what an argument is as a text -/
def StrA (K : PySem.W.Frag) (H : Hp) (x : V) : Option Str → Prop
  | some z => x = .str z
  | none => ∃ t, TyX K H x t ∧ PySem.W.kitOne K t (.type "str") = some false
def isDirO : Option Str → Bool
  | some z => decide (z = "forward") || decide (z = "backward")
  | none => false
theorem tup_ge {xs : List V} (h : xs.length ≤ 4) : xs.length ≤ sizeLine := Nat.le_trans h (by decide)
section
variable {P : Program} {w : World} {K : PySem.W.Frag} {mg : Str → Option Value} {base : Heap}
def sp_Table_is_call (K : PySem.W.Frag) (C : Addr) : Sp := fun vs H Q _ => ∃ (a : Addr) (x : V) (ns : List Int) (ot : Option (List (Option Int))), vs = [.ref a, x] ∧ TabAt C H a ns ∧ TupA K H x ot ∧ ∀ H2, Ex H H2 → Q (.bl (isCallO ns ot)) H2
theorem ok_Table_is_call (T : TX K mg) : FnOk P w K mg base CX0 2 T.f_Table_is_call T.fd_Table_is_call ["self", "value"] (sp_Table_is_call K T.C_Table) := by
  refine T.F_Table_is_call.ok sc_Table_is_call (fun vs H Q E h => ?_) (fun cdv A outer s H vs Q E hr h => ?_)
  · obtain ⟨a, x, ns, ot, rfl, _⟩ := h
    rfl
  · obtain ⟨a, x, ns, ot, rfl, ⟨dx, t, h1, h2⟩, hx, k⟩ := h
    refine ⟨_, (pss_one (ps_ret (pe_and (pe_callB call_isi (by rfl) T.z_isinstance (by decide +kernel) (pa_cons (pv 1) (pa_cons (pe_bltn (v := .ty "tuple") rfl T.z_tuple (by decide +kernel) rfl) pa_nil))) (pe_and (pe_cmpR op_eq (pe_callB call_len_seq (by rfl) T.z_len (by decide +kernel) (pa_cons (pv 1) pa_nil)) (pe_callB call_len_seq (by rfl) T.z_len (by decide +kernel) (pa_cons (pe_fld (pv 0) rfl) pa_nil)) (nomark _)) (pe_one (pe_callB (cr_all rfl) (by rfl) T.z_all (by decide +kernel) (pa_cons (pe_lc (own := [("one", 2)]) (g := (gName 2)) rfl sc_Table_is_call.nd (pi_tup (pv 1)) (blkOk_by (N := N_Table_is_call) (sc := defScope s_Table_is_call) (by decide +kernel)) (fun _ _ _ _ _ => (pg_name (i := 2) sc_Table_is_call.nd rfl (Or.inl rfl))) (fun _ _ _ _ _ => pts_nil) (fun _ _ _ _ _ => (pe_call (ok_is_integer T) hr rfl T.m_is_integer T.F_is_integer.kp T.b_is_integer .nil pass0 (pa_cons (pv 2) pa_nil)))) pa_nil))))))), ?_⟩
    cases ot with
    | none =>
      obtain ⟨ty, hty, hk⟩ := hx
      exact ⟨_, rfl, _, _, _, _, false, rfl, .ty _, hty, hk, _, rfl, k _ exr⟩
    | some os =>
      obtain ⟨v, xs, rfl, hv, hl, hp⟩ := hx
      have lo : xs.length = os.length := Paired.length hp
      refine ⟨_, rfl, _, _, _, _, true, rfl, .ty _, .base (.tup hv), kit_ty (by decide +kernel), _, rfl, iteT ?_⟩
      refine ⟨_, rfl, v, _, rfl, .inr (SqT.of hv), _, rfl, a, _, dx, _, _, rfl, h1, T.cl_Table, T.n_Table_rings, rfl, t, _, rfl, .inr (SqT.of h2), rfl, _, rfl, ?_⟩
      by_cases c : os.length = ns.length
      · refine itt ?_ ?_
        · rw [List.length_map, lo, c]
          simp
        · refine ⟨_, rfl, v, rfl, ⟨_, SqT.of hv⟩, fun D hD => ?_⟩
          refine lc_vals walk_tup ((os.map Option.isSome).map V.bl) (by rw [List.length_map, List.length_map, lo]) (by omega) hD (fun H3 e => SqT.of (e _ _ hv)) ?_ gmono_name ?_
          · intro i y H3 H4 R hi e yy kk
            obtain ⟨rfl, hy⟩ := yy
            obtain ⟨o, ho, hi2⟩ := paired_get hp hy
            refine ⟨rfl, _, rfl, _, o, rfl, hi2.mono e, kk _ _ exr ?_⟩
            rw [List.getElem?_map, List.getElem?_map, ho]
            rfl
          · intro H3 e hD3
            refine ⟨D, _, rfl, SqL.of hD3, ?_⟩
            have es : isCallO ns (some os) = (os.map Option.isSome).all id := by
              show (decide _ && _) = _
              rw [decide_eq_true c, Bool.true_and]
            rw [← es]
            exact k _ e
      · refine itf ?_ ?_
        · rw [List.length_map, lo]
          simp
          omega
        · have es : isCallO ns (some os) = false := by
            show (decide _ && _) = _
            rw [decide_eq_false c, Bool.false_and]
          have := k _ exr
          rw [es] at this
          exact this
def sp_Table_shifted (C : Addr) : Sp := fun vs H Q _ => ∃ (a s c : Addr) (f : Int) (ns ps cs : List Int), vs = [.ref a, .ref s, .ref c, .int f] ∧ TabAt C H a ns ∧ SzOk ns ∧ H s = some (.tup (ps.map V.int)) ∧ H c = some (.tup (cs.map V.int)) ∧ ps.length = ns.length ∧ cs.length = ns.length ∧ (f = 1 ∨ f = -1) ∧
  ∀ H2 q, Ex H H2 → H q = none → H2 q = some (.tup ((shiftL ns ps cs f).map V.int)) → Q (.ref q) H2
theorem ok_Table_shifted (T : TX K mg) : FnOk P w K mg base CX0 1 T.f_Table_shifted T.fd_Table_shifted ["self", "seat", "call", "factor"] (sp_Table_shifted T.C_Table) := by
  refine T.F_Table_shifted.ok sc_Table_shifted (fun vs H Q E h => ?_) (fun cdv A outer s H vs Q E hr h => ?_)
  · obtain ⟨a, s, c, f, ns, ps, cs, rfl, _⟩ := h
    rfl
  · obtain ⟨a, s, c, f, ns, ps, cs, rfl, ⟨dx, t, h1, h2⟩, ok, hs, hc, lp, lc, hf, k⟩ := h
    have l4 := ok.le
    refine ⟨_, (pss_one (ps_ret (pe_callTy call_tuple_of (by rfl) T.z_tuple (by decide +kernel) (pa_cons (pe_lc (own := [("place", 4), ("one", 5), ("size", 6)]) (g := (gTup K 3 (gCons (gName 4) (gCons (gName 5) (gCons (gName 6) gNil))))) rfl sc_Table_shifted.nd (CZ.pi_z3s (fl := [true, true, true]) rfl (by rfl) T.z_zip (pa_cons (pv 1) (pa_cons (pv 2) (pa_cons (pe_fld (pv 0) rfl) pa_nil)))) (blkOk_by (N := N_Table_shifted) (sc := defScope s_Table_shifted) (by decide +kernel)) (fun _ _ _ _ _ => (pg_tup rfl (pgs_cons (pg_name (i := 4) sc_Table_shifted.nd rfl (Or.inl rfl)) (pgs_cons (pg_name (i := 5) sc_Table_shifted.nd rfl (Or.inl rfl)) (pgs_cons (pg_name (i := 6) sc_Table_shifted.nd rfl (Or.inl rfl)) pgs_nil))))) (fun _ _ _ _ _ => pts_nil) (fun _ _ _ _ _ => (pe_op op_mod (pe_op op_add (pv 4) (pe_op op_mulI (pv 3) (pv 5))) (pv 6)))) pa_nil)))), ?_⟩
    refine ⟨_, rfl, _, rfl, _, rfl, a, _, dx, _, _, rfl, h1, T.cl_Table, T.n_Table_rings, rfl, [s, c, t], rfl, rfl, ?_, fun D hD => ?_⟩
    · intro p hp2
      have hp3 : p = (true, s) ∨ p = (true, c) ∨ p = (true, t) := by simpa using hp2
      rcases hp3 with e | e | e
      · rw [e]; exact ⟨_, SqT.of hs⟩
      · rw [e]; exact ⟨_, SqT.of hc⟩
      · rw [e]; exact ⟨_, SqT.of h2⟩
    · have ls : (shiftL ns ps cs f).length = ns.length := shift_len lp lc
      refine lc_vals (CZ.walk_rows (xss := [ps.map V.int, cs.map V.int, ns.map V.int]) (n := ns.length) ?_) ((shiftL ns ps cs f).map V.int) (by rw [List.length_map, ls]) (by omega) hD (fun H3 e => .cons (SqT.of (e _ _ hs)) (.cons (SqT.of (e _ _ hc)) (.cons (SqT.of (e _ _ h2)) .nil))) ?_ (gmono_tup (gmono_cons gmono_name (gmono_cons gmono_name (gmono_cons gmono_name gmono_nil)))) ?_
      · intro ys hy
        have hy2 : ys = ps.map V.int ∨ ys = cs.map V.int ∨ ys = ns.map V.int := by simpa using hy
        rcases hy2 with e | e | e
        · rw [e, List.length_map, lp]
        · rw [e, List.length_map, lc]
        · rw [e, List.length_map]
      · intro i y H3 H4 R hi e yy kk
        obtain ⟨Ta, vs, rfl, hT, rfl, hr2⟩ := yy
        cases hr2 with
        | cons r1 hr2 =>
          cases hr2 with
          | cons r2 hr2 =>
            cases hr2 with
            | cons r3 hr2 =>
              cases hr2
              obtain ⟨p, hp, rfl⟩ := map_get r1
              obtain ⟨d, hd, rfl⟩ := map_get r2
              obtain ⟨n, hn, rfl⟩ := map_get r3
              have n1 := ok.one n (List.mem_of_getElem? hn)
              refine ⟨Ta, _, rfl, SqT.of upd_same, rfl, _, _, rfl, _, _, rfl, _, _, rfl, rfl, rfl, ?_⟩
              refine ⟨_, rfl, _, rfl, _, rfl, _, _, rfl, rfl, mul_ok (.inl (by rcases hf with e | e <;> rw [e] <;> decide)), _, _, rfl, rfl, _, rfl, _, _, rfl, rfl, (by show (0 : Int) < n; omega), ?_⟩
              refine kk _ _ (exn hT) ?_
              rw [List.getElem?_map, shift_get hn hp hd]
              rfl
      · intro H3 e hD3
        exact ⟨D, _, rfl, .inl ⟨SqL.of hD3, fun q hq => k _ q (fun b o z => exn hq b o (e b o z)) (Evl.fresh_back e hq) upd_same⟩⟩
def sp_is_direction (K : PySem.W.Frag) : Sp := fun vs H Q _ => ∃ x o, vs = [x] ∧ StrA K H x o ∧ ∀ H2, Ex H H2 → Q (.bl (isDirO o)) H2
theorem ok_is_direction (T : TX K mg) : FnOk P w K mg base CX0 1 T.f_is_direction T.fd_is_direction ["value"] (sp_is_direction K) := by
  refine T.F_is_direction.ok sc_is_direction (fun vs H Q E h => ?_) (fun cdv A outer s H vs Q E hr h => ?_)
  · obtain ⟨x, o, rfl, _⟩ := h
    rfl
  · obtain ⟨x, o, rfl, hx, k⟩ := h
    refine ⟨_, (pss_one (ps_ret (pe_and (pe_callB call_isi (by rfl) T.z_isinstance (by decide +kernel) (pa_cons (pv 0) (pa_cons (pe_bltn (v := .ty "str") rfl T.z_str (by decide +kernel) rfl) pa_nil))) (pe_one (pe_cmpR op_in_seq (pv 0) (pe_tup (pa_cons pe_str (pa_cons pe_str pa_nil))) rfl))))), ?_⟩
    cases o with
    | none =>
      obtain ⟨t, ht, hk⟩ := hx
      exact ⟨_, rfl, _, _, _, _, false, rfl, .ty _, ht, hk, _, rfl, k _ exr⟩
    | some z =>
      cases hx
      refine ⟨_, rfl, _, _, _, _, true, rfl, .ty _, .base (.str z), kit_ty (by decide +kernel), _, rfl, iteT ?_⟩
      refine ⟨_, rfl, by show 2 ≤ sizeLine; decide, fun p hp => ?_⟩
      refine ⟨p, _, rfl, .inr (SqT.of upd_same), rfl, rfl, ?_⟩
      have es : (if false = true then !inV (V.str z) [V.str "forward", V.str "backward"] else inV (V.str z) [V.str "forward", V.str "backward"]) = isDirO (some z) := by
        rw [if_neg Bool.false_ne_true]
        show (eqV (V.str "forward") (V.str z) || (eqV (V.str "backward") (V.str z) || false)) = (decide (z = "forward") || decide (z = "backward"))
        have h1 : eqV (V.str "forward") (V.str z) = decide (z = "forward") := by
          show decide (("forward" : Str) = z) = _
          exact decide_eq_decide.mpr ⟨Eq.symm, Eq.symm⟩
        have h2 : eqV (V.str "backward") (V.str z) = decide (z = "backward") := by
          show decide (("backward" : Str) = z) = _
          exact decide_eq_decide.mpr ⟨Eq.symm, Eq.symm⟩
        rw [h1, h2, Bool.or_false]
      rw [es]
      exact k _ (exn hp)
def sp_require_seat (K : PySem.W.Frag) (C : Addr) : Sp := fun vs H Q _ => ∃ (a : Addr) (x : V) (ns : List Int) (ot : Option (List (Option Int))), vs = [.ref a, x] ∧ TabAt C H a ns ∧ ns.length ≤ 4 ∧ TupA K H x ot ∧ isSeatO ns ot = true ∧ ∀ H2, Ex H H2 → Q .non H2
theorem ok_require_seat (T : TX K mg) : FnOk P w K mg base CX0 4 T.f_require_seat T.fd_require_seat ["table", "seat"] (sp_require_seat K T.C_Table) := by
  refine T.F_require_seat.ok sc_require_seat (fun vs H Q E h => ?_) (fun cdv A outer s H vs Q E hr h => ?_)
  · obtain ⟨a, x, ns, ot, rfl, _⟩ := h
    rfl
  · obtain ⟨a, x, ns, ot, rfl, ht, l4, hx, ok, k⟩ := h
    refine ⟨_, (pss_one (ps_if (pt_not (pt_val (pe_meth (pv 0) T.cl_Table T.me_Table_is_seat (ok_Table_is_seat T) hr T.b_Table_is_seat .nil pass0 (pa_cons (pv 1) pa_nil)))) pss_never pss_nil)), ?_⟩
    obtain ⟨dx, t, h1, h2⟩ := id ht
    refine ⟨_, rfl, a, dx, _, rfl, h1, rfl, _, rfl, a, x, ns, ot, rfl, ht, l4, hx, fun H2 e => ⟨_, rfl, itf (by rw [ok]; rfl) (k _ e)⟩⟩
def sp_require_call (K : PySem.W.Frag) (C : Addr) : Sp := fun vs H Q _ => ∃ (a : Addr) (x : V) (ns : List Int) (ot : Option (List (Option Int))), vs = [.ref a, x] ∧ TabAt C H a ns ∧ TupA K H x ot ∧ isCallO ns ot = true ∧ ∀ H2, Ex H H2 → Q .non H2
theorem ok_require_call (T : TX K mg) : FnOk P w K mg base CX0 3 T.f_require_call T.fd_require_call ["table", "call"] (sp_require_call K T.C_Table) := by
  refine T.F_require_call.ok sc_require_call (fun vs H Q E h => ?_) (fun cdv A outer s H vs Q E hr h => ?_)
  · obtain ⟨a, x, ns, ot, rfl, _⟩ := h
    rfl
  · obtain ⟨a, x, ns, ot, rfl, ht, hx, ok, k⟩ := h
    refine ⟨_, (pss_one (ps_if (pt_not (pt_val (pe_meth (pv 0) T.cl_Table T.me_Table_is_call (ok_Table_is_call T) hr T.b_Table_is_call .nil pass0 (pa_cons (pv 1) pa_nil)))) pss_never pss_nil)), ?_⟩
    obtain ⟨dx, t, h1, h2⟩ := id ht
    refine ⟨_, rfl, a, dx, _, rfl, h1, rfl, _, rfl, a, x, ns, ot, rfl, ht, hx, fun H2 e => ⟨_, rfl, itf (by rw [ok]; rfl) (k _ e)⟩⟩
def sp_Table_moves (C : Addr) : Sp := fun vs H Q _ => ∃ (a s c : Addr) (ns ps cs : List Int), vs = [.ref a, .ref s, .ref c] ∧ TabAt C H a ns ∧ SzOk ns ∧ H s = some (.tup (ps.map V.int)) ∧ H c = some (.tup (cs.map V.int)) ∧ SeatOk ns ps ∧ cs.length = ns.length ∧
  ∀ H2 q f b, Ex H H2 → H q = none → H f = none → H b = none → H2 q = some (.tup [.ref f, .ref b]) → H2 f = some (.tup ((shiftL ns ps cs 1).map V.int)) → H2 b = some (.tup ((shiftL ns ps cs (-1)).map V.int)) → Q (.ref q) H2
theorem ok_Table_moves (T : TX K mg) : FnOk P w K mg base CX0 5 T.f_Table_moves T.fd_Table_moves ["self", "seat", "call"] (sp_Table_moves T.C_Table) := by
  refine T.F_Table_moves.ok sc_Table_moves (fun vs H Q E h => ?_) (fun cdv A outer s H vs Q E hr h => ?_)
  · obtain ⟨a, s, c, ns, ps, cs, rfl, _⟩ := h
    rfl
  · obtain ⟨a, s, c, ns, ps, cs, rfl, ht, ok, hs, hc, sk, lc, k⟩ := h
    have l4 := ok.le
    have lp := sk.len
    refine ⟨_, (pss_cons (ps_expr (pe_call (ok_require_seat T) hr rfl T.m_require_seat T.F_require_seat.kp T.b_require_seat .nil pass0 (pa_cons (pv 0) (pa_cons (pv 1) pa_nil)))) (pss_cons (ps_expr (pe_call (ok_require_call T) (hr.mono (by decide)) rfl T.m_require_call T.F_require_call.kp T.b_require_call .nil pass0 (pa_cons (pv 0) (pa_cons (pv 2) pa_nil)))) (pss_one (ps_ret (pe_tup (pa_cons (pe_meth (pv 0) T.cl_Table T.me_Table_shifted (ok_Table_shifted T) (hr.mono (by decide)) T.b_Table_shifted .nil pass0 (pa_cons (pv 1) (pa_cons (pv 2) (pa_cons pe_int pa_nil)))) (pa_cons (pe_meth (pv 0) T.cl_Table T.me_Table_shifted (ok_Table_shifted T) (hr.mono (by decide)) T.b_Table_shifted .nil pass0 (pa_cons (pv 1) (pa_cons (pv 2) (pa_cons (pe_un un_neg pe_int) pa_nil)))) pa_nil))))))), ?_⟩
    refine ⟨_, rfl, _, rfl, a, _, ns, _, rfl, ht, l4, TupA.ints hs (by omega), isSeat_ok sk, fun H1 e1 => ?_⟩
    refine ⟨_, rfl, _, rfl, a, _, ns, _, rfl, ht.mono e1, TupA.ints (e1 _ _ hc) (by omega), isCall_ok lc, fun H2 e2 => ?_⟩
    have e12 : Ex H H2 := fun b o z => e2 b o (e1 b o z)
    obtain ⟨dx, t, g1, g2⟩ := ht.mono e12
    refine ⟨_, rfl, a, dx, _, rfl, g1, rfl, _, rfl, _, rfl, a, s, c, 1, ns, ps, cs, rfl, ⟨dx, t, g1, g2⟩, ok, e12 _ _ hs, e12 _ _ hc, lp, lc, .inl rfl, fun H3 f e3 nf hf => ?_⟩
    have e13 : Ex H H3 := fun b o z => e3 b o (e12 b o z)
    refine ⟨_, rfl, a, dx, _, rfl, e3 _ _ g1, rfl, _, rfl, _, rfl, _, rfl, a, s, c, -1, ns, ps, cs, rfl, ⟨dx, t, e3 _ _ g1, e3 _ _ g2⟩, ok, e13 _ _ hs, e13 _ _ hc, lp, lc, .inr rfl, fun H4 b e4 nb hb => ?_⟩
    have e14 : Ex H H4 := fun b o z => e4 b o (e13 b o z)
    refine ⟨by show 2 ≤ sizeLine; decide, fun q hq => ?_⟩
    have nfq : f ≠ q := ne_of_none (e4 _ _ hf) hq
    have nbq : b ≠ q := ne_of_none hb hq
    exact k _ q f b (fun c o z => exn hq c o (e14 c o z)) (Evl.fresh_back e14 hq) (Evl.fresh_back e12 nf) (Evl.fresh_back e13 nb) upd_same (by rw [upd_ne nfq]; exact e4 _ _ hf) (by rw [upd_ne nbq]; exact hb)
def sp_Table_step (C : Addr) : Sp := fun vs H Q _ => ∃ (a s c : Addr) (ns ps cs : List Int) (bk : Bool), vs = [.ref a, .ref s, .ref c, .str (if bk = true then "backward" else "forward")] ∧ TabAt C H a ns ∧ SzOk ns ∧ H s = some (.tup (ps.map V.int)) ∧ H c = some (.tup (cs.map V.int)) ∧ SeatOk ns ps ∧ cs.length = ns.length ∧
  ∀ H2 q, Ex H H2 → H q = none → H2 q = some (.tup ((shiftL ns ps cs (if bk = true then -1 else 1)).map V.int)) → Q (.ref q) H2
theorem ok_Table_step (T : TX K mg) : FnOk P w K mg base CX0 6 T.f_Table_step T.fd_Table_step ["self", "seat", "call", "direction"] (sp_Table_step T.C_Table) := by
  refine T.F_Table_step.ok sc_Table_step (fun vs H Q E h => ?_) (fun cdv A outer s H vs Q E hr h => ?_)
  · obtain ⟨a, s, c, ns, ps, cs, bk, rfl, _⟩ := h
    rfl
  · obtain ⟨a, s, c, ns, ps, cs, bk, rfl, ht, ok, hs, hc, sk, lc, k⟩ := h
    refine ⟨_, (pss_cons (ps_set (i := 4) sc_Table_step.nd rfl (Or.inl rfl) (pe_meth (pv 0) T.cl_Table T.me_Table_moves (ok_Table_moves T) hr T.b_Table_moves .nil pass0 (pa_cons (pv 1) (pa_cons (pv 2) pa_nil)))) (pss_cons (ps_if (pt_not (pt_val (pe_call (ok_is_direction T) (hr.mono (by decide)) rfl T.m_is_direction T.F_is_direction.kp T.b_is_direction .nil pass0 (pa_cons (pv 3) pa_nil)))) pss_never pss_nil) (pss_one (ps_ret (pe_ix ix_tup (pv 4) (pe_callTy call_int1 (by rfl) T.z_int (by decide +kernel) (pa_cons (pe_cmpR op_eq (pv 3) pe_str (nomark _)) pa_nil)) (fun _ _ => rfl)))))), ?_⟩
    obtain ⟨dx, t, g1, g2⟩ := id ht
    refine ⟨_, rfl, a, dx, _, rfl, g1, rfl, _, rfl, _, rfl, a, s, c, ns, ps, cs, rfl, ht, ok, hs, hc, sk, lc, fun H1 q f b e1 nq nf nb hq hf hb => ?_⟩
    refine ⟨_, rfl, _, some _, rfl, rfl, fun H2 e2 => ⟨_, rfl, itf ?_ ?_⟩⟩
    · cases bk <;> decide +kernel
    · cases bk with
      | false =>
        refine ⟨_, rfl, _, rfl, rfl, .inr ⟨_, rfl, q, _, _, _, rfl, rfl, SqT.of (e2 _ _ hq), ?_, k _ f (fun c o z => e2 c o (e1 c o z)) nf (e2 _ _ hf)⟩⟩
        have ei : (if decide (V.str (if false = true then "backward" else "forward") = V.str "backward") = true then 1 else 0 : Int) = 0 := by decide +kernel
        rw [ei]
        rfl
      | true =>
        refine ⟨_, rfl, _, rfl, rfl, .inr ⟨_, rfl, q, _, _, _, rfl, rfl, SqT.of (e2 _ _ hq), ?_, k _ b (fun c o z => e2 c o (e1 c o z)) nb (e2 _ _ hb)⟩⟩
        have ei : (if decide (V.str (if true = true then "backward" else "forward") = V.str "backward") = true then 1 else 0 : Int) = 1 := by decide +kernel
        rw [ei]
        rfl
end

/-- all but what is at s stays -/
def XB (s : Addr) (H H2 : Hp) : Prop := ∀ c o, c ≠ s → H c = some o → H2 c = some o
theorem XB.refl {s : Addr} {H : Hp} : XB s H H := fun _ _ _ h => h
theorem XB.trans {s : Addr} {H H1 H2 : Hp} (a : XB s H H1) (b : XB s H1 H2) : XB s H H2 := fun c o n h => b c o n (a c o n h)
theorem XB.upd {s : Addr} {H : Hp} {o : HO} : XB s H (upd H s o) := fun c u n h => by rw [upd_ne n]; exact h
theorem XB.of {s : Addr} {H H2 : Hp} (e : Ex H H2) : XB s H H2 := fun c o _ h => e c o h
theorem XB.back {s : Addr} {H H2 : Hp} (e : XB s H H2) {p : Addr} (hn : p ≠ s) (h : H2 p = none) : H p = none := by
  cases q : H p with
  | none => rfl
  | some o => rw [e p o hn q] at h; cases h
theorem mod_lo {i n : Int} (h : 0 < n) : 0 ≤ i % n := Int.emod_nonneg i (by omega)
theorem mod_hi {i n : Int} (h : 0 < n) : i % n < n := Int.emod_lt_of_pos i h

/-! ### data -/
mutual
theorem eqv_refl : ∀ d : PyData, d.canLay0 = true → PyData.eqv d d = true
  | .none, _ => by simp only [PyData.eqv]
  | .bool b, _ => by simp only [PyData.eqv, beq_self_eq_true]
  | .int i, _ => by simp only [PyData.eqv, beq_self_eq_true]
  | .str x, _ => by simp only [PyData.eqv, beq_self_eq_true]
  | .list xs, h => by
    simp only [PyData.canLay0] at h
    simp only [PyData.eqv]
    exact eqvAll_refl xs h
  | .tuple xs, h => by
    simp only [PyData.canLay0] at h
    simp only [PyData.eqv]
    exact eqvAll_refl xs h
  | .dict _, h => by simp [PyData.canLay0] at h
theorem eqvAll_refl : ∀ ds : List PyData, PyData.canLayAll0 ds = true → PyData.eqvAll ds ds = true
  | [], _ => by simp only [PyData.eqvAll]
  | d :: ds, h => by
    simp only [PyData.canLayAll0, Bool.and_eq_true] at h
    simp only [PyData.eqvAll, Bool.and_eq_true]
    exact ⟨eqv_refl d h.1, eqvAll_refl ds h.2⟩
end
/-- data of a depth below n, in a form that may be laid -/
def Sh (n : Nat) (d : PyData) : Prop := d.canLay0 = true ∧ d.depth ≤ n
theorem Sh.ok {d : PyData} (h : Sh 60 d) : SeqAt.shaped d = true := by
  unfold SeqAt.shaped
  rw [h.1, decide_eq_true (Nat.le_trans h.2 (by decide))]
  rfl
theorem sh_int {n : Nat} (i : Int) : Sh n (.int i) := ⟨by simp only [PyData.canLay0], by simp only [PyData.depth]; omega⟩
theorem sh_bool {n : Nat} (i : Bool) : Sh n (.bool i) := ⟨by simp only [PyData.canLay0], by simp only [PyData.depth]; omega⟩
theorem sh_none {n : Nat} : Sh n .none := ⟨by simp only [PyData.canLay0], by simp only [PyData.depth]; omega⟩
theorem sh_all {n : Nat} : ∀ {ds : List PyData}, (∀ d ∈ ds, Sh n d) → PyData.canLayAll0 ds = true ∧ PyData.depthAll ds ≤ n
  | [], _ => ⟨by simp only [PyData.canLayAll0], by simp only [PyData.depthAll]; omega⟩
  | d :: ds, h => by
    obtain ⟨h1, h2⟩ := h d List.mem_cons_self
    obtain ⟨g1, g2⟩ := sh_all fun x hx => h x (List.mem_cons_of_mem _ hx)
    refine ⟨by simp only [PyData.canLayAll0, h1, g1, Bool.and_self], ?_⟩
    simp only [PyData.depthAll]
    omega
theorem sh_tuple {n : Nat} {ds : List PyData} (h : ∀ d ∈ ds, Sh n d) : Sh (n + 1) (.tuple ds) := by
  obtain ⟨h1, h2⟩ := sh_all h
  exact ⟨by simp only [PyData.canLay0, h1], by simp only [PyData.depth]; omega⟩
theorem sh_list {n : Nat} {ds : List PyData} (h : ∀ d ∈ ds, Sh n d) : Sh (n + 1) (.list ds) := by
  obtain ⟨h1, h2⟩ := sh_all h
  exact ⟨by simp only [PyData.canLay0, h1], by simp only [PyData.depth]; omega⟩
theorem Sh.up {n m : Nat} {d : PyData} (h : Sh n d) (e : n ≤ m) : Sh m d := ⟨h.1, Nat.le_trans h.2 e⟩
/-- a tuple of ints -/
abbrev iT (ns : List Int) : PyData := .tuple (ns.map PyData.int)
theorem sh_ints {n : Nat} (ns : List Int) : Sh (n + 1) (iT ns) := sh_tuple fun d hd => by
  obtain ⟨i, _, rfl⟩ := List.mem_map.mp hd
  exact sh_int i
theorem dpall_ints {K : PySem.W.Frag} {H : Hp} : ∀ ns : List Int, DpAll K H (ns.map V.int) (ns.map PyData.int)
  | [] => .nil
  | n :: ns => .cons (.int n) (dpall_ints ns)
theorem dp_ints {K : PySem.W.Frag} {H : Hp} {a : Addr} {ns : List Int} (h : H a = some (.tup (ns.map V.int))) : Dp K H (.ref a) (iT ns) := .tup (SqT.of h) (dpall_ints ns)
theorem eqvAll_ints : ∀ ns ms : List Int, PyData.eqvAll (ns.map PyData.int) (ms.map PyData.int) = decide (ns = ms)
  | [], [] => by simp [PyData.eqvAll]
  | [], _ :: _ => by simp [PyData.eqvAll]
  | _ :: _, [] => by simp [PyData.eqvAll]
  | n :: ns, m :: ms => by
    have ih := eqvAll_ints ns ms
    simp only [List.map_cons, PyData.eqvAll, PyData.eqv, ih]
    by_cases h : n = m
    · subst h
      simp
    · have : (n == m) = false := by simpa using h
      rw [this]
      simp [h]
theorem eqv_ints (ns ms : List Int) : PyData.eqv (iT ns) (iT ms) = decide (ns = ms) := by
  simp only [PyData.eqv]
  exact eqvAll_ints ns ms
theorem sh_pair {n : Nat} {a b : PyData} (ha : Sh n a) (hb : Sh n b) : Sh (n + 1) (.tuple [a, b]) := sh_tuple fun d hd => by
  rcases List.mem_cons.mp hd with e | e
  · rw [e]; exact ha
  · rw [List.mem_singleton.mp e]; exact hb
theorem eqv_same {d : PyData} (h : Sh 60 d) : (!PyData.eqv d d) = false := by rw [eqv_refl d h.1]; rfl

/-! ### zip's rows, nested comprehensions, lists of tuples of ints -/
theorem yrow2 {xs ys : List V} {i : Nat} {H H2 : Hp} {x : V} (h : CZ.YRow [xs, ys] i H x H2) : ∃ (Ta : Addr) (a b : V), x = .ref Ta ∧ H Ta = none ∧ H2 = upd H Ta (.tup [a, b]) ∧ xs[i]? = some a ∧ ys[i]? = some b := by
  obtain ⟨Ta, vs, rfl, hT, rfl, r⟩ := h
  cases r with
  | cons r1 r =>
    cases r with
    | cons r2 r =>
      cases r
      exact ⟨Ta, _, _, rfl, hT, rfl, r1, r2⟩
theorem yrow3 {xs ys zs : List V} {i : Nat} {H H2 : Hp} {x : V} (h : CZ.YRow [xs, ys, zs] i H x H2) : ∃ (Ta : Addr) (a b c : V), x = .ref Ta ∧ H Ta = none ∧ H2 = upd H Ta (.tup [a, b, c]) ∧ xs[i]? = some a ∧ ys[i]? = some b ∧ zs[i]? = some c := by
  obtain ⟨Ta, vs, rfl, hT, rfl, r⟩ := h
  cases r with
  | cons r1 r =>
    cases r with
    | cons r2 r =>
      cases r with
      | cons r3 r =>
        cases r
        exact ⟨Ta, _, _, _, rfl, hT, rfl, r1, r2, r3⟩
theorem yints2 {xs ys : List Int} {i : Nat} {H H2 : Hp} {x : V} (h : CZ.YRow [xs.map V.int, ys.map V.int] i H x H2) : ∃ (Ta : Addr) (a b : Int), x = .ref Ta ∧ H Ta = none ∧ H2 = upd H Ta (.tup [.int a, .int b]) ∧ xs[i]? = some a ∧ ys[i]? = some b := by
  obtain ⟨Ta, a, b, rfl, hT, rfl, r1, r2⟩ := yrow2 h
  obtain ⟨p, hp, rfl⟩ := map_get r1
  obtain ⟨q, hq, rfl⟩ := map_get r2
  exact ⟨Ta, p, q, rfl, hT, rfl, hp, hq⟩
theorem yints3 {xs ys zs : List Int} {i : Nat} {H H2 : Hp} {x : V} (h : CZ.YRow [xs.map V.int, ys.map V.int, zs.map V.int] i H x H2) : ∃ (Ta : Addr) (a b c : Int), x = .ref Ta ∧ H Ta = none ∧ H2 = upd H Ta (.tup [.int a, .int b, .int c]) ∧ xs[i]? = some a ∧ ys[i]? = some b ∧ zs[i]? = some c := by
  obtain ⟨Ta, a, b, c, rfl, hT, rfl, r1, r2, r3⟩ := yrow3 h
  obtain ⟨p, hp, rfl⟩ := map_get r1
  obtain ⟨q, hq, rfl⟩ := map_get r2
  obtain ⟨r, hr, rfl⟩ := map_get r3
  exact ⟨Ta, p, q, r, rfl, hT, rfl, hp, hq, hr⟩
theorem all2 {K : PySem.W.Frag} {H : Hp} {p q : Bool × Addr} {xs ys : List V} (hp : CZ.SqK K H p xs) (hq : CZ.SqK K H q ys) : ∀ r ∈ [p, q], ∃ zs, CZ.SqK K H r zs := fun r hr => by
  rcases List.mem_cons.mp hr with e | hr
  · rw [e]; exact ⟨_, hp⟩
  · rw [List.mem_singleton.mp hr]; exact ⟨_, hq⟩
theorem all3 {K : PySem.W.Frag} {H : Hp} {p q t : Bool × Addr} {xs ys us : List V} (hp : CZ.SqK K H p xs) (hq : CZ.SqK K H q ys) (ht : CZ.SqK K H t us) : ∀ r ∈ [p, q, t], ∃ zs, CZ.SqK K H r zs := fun r hr => by
  rcases List.mem_cons.mp hr with e | hr
  · rw [e]; exact ⟨_, hp⟩
  · exact all2 hq ht r hr
theorem lens2 {xs ys : List V} {n : Nat} (h1 : xs.length = n) (h2 : ys.length = n) : ∀ zs ∈ [xs, ys], zs.length = n := fun zs hz => by
  rcases List.mem_cons.mp hz with e | hz
  · rw [e]; exact h1
  · rw [List.mem_singleton.mp hz]; exact h2
theorem lens3 {xs ys us : List V} {n : Nat} (h1 : xs.length = n) (h2 : ys.length = n) (h3 : us.length = n) : ∀ zs ∈ [xs, ys, us], zs.length = n := fun zs hz => by
  rcases List.mem_cons.mp hz with e | hz
  · rw [e]; exact h1
  · exact lens2 h2 h3 zs hz
theorem sqT {K : PySem.W.Frag} {H : Hp} {a : Addr} {xs : List V} (h : H a = some (.tup xs)) : CZ.SqK K H (true, a) xs := SqT.of h
theorem sqL {K : PySem.W.Frag} {H : Hp} {a : Addr} {xs : List V} (h : H a = some (.lst xs)) : CZ.SqK K H (false, a) xs := SqL.of h
section
variable {J : It} {n : Nat} {G : Hp → Prop} {Y : Nat → Hp → V → Hp → Prop}
/-- a comprehension of two loops: the outer -/
theorem lc2_it (w : Walk J n G Y) {g g1 : TG} {tt tt1 : TT} {te : TE} {wi1 : TI} {vs vs1 : List Nat} {σ : L2.St} {H1 : Hp} {D : Addr} {Qd : Hp → Prop} (Pv : Nat → Hp → Prop) (h0 : Pv 0 (upd H1 D (.lst []))) (hG : ∀ i H, i ≤ n → Pv i H → G H)
    (hs : ∀ i x H H2, i < n → Pv i H → Y i H x H2 → g x (wipe σ vs) H2 fun σ2 H2 => wipe σ2 vs = wipe σ vs ∧ tt σ2 H2 fun b H3 =>
      if b = true then wi1 σ2 H3 fun J1 H4 => ∃ W1 : Nat → Nat → Hp → Prop, (∃ m, W1 0 m H4) ∧ ∀ j k H, W1 j k H →
        (J1.stop j H ∧ Pv (i + 1) H) ∨ (J1.go j H ∧ ∃ Nx1 : Hp → Prop, (∀ H2, Nx1 H2 → ∃ k2, k2 < k ∧ W1 (j + 1) k2 H2) ∧ ∀ x H2, J1.yld j H x H2 → g1 x (wipe σ2 vs1) H2 fun σ3 H5 => wipe σ3 vs1 = wipe σ2 vs1 ∧ tt1 σ3 H5 fun b H6 =>
          if b = true then te σ3 H6 fun y H7 => ∃ acc, H7 D = some (.lst acc) ∧ acc.length < sizeLine ∧ Nx1 (upd H7 D (.lst (acc ++ [y]))) else Nx1 H6)
      else Pv (i + 1) H3) (hd : ∀ H, Pv n H → Qd H) :
    ∃ W : Nat → Nat → Hp → Prop, (∃ m, W 0 m (upd H1 D (.lst []))) ∧ ∀ i m H, W i m H →
      (J.stop i H ∧ Qd H) ∨ (J.go i H ∧ ∃ Nx : Hp → Prop, (∀ H2, Nx H2 → ∃ m2, m2 < m ∧ W (i + 1) m2 H2) ∧ ∀ x H2, J.yld i H x H2 → g x (wipe σ vs) H2 fun σ2 H2 => wipe σ2 vs = wipe σ vs ∧ tt σ2 H2 fun b H3 =>
        if b = true then wi1 σ2 H3 fun J1 H4 => ∃ W1 : Nat → Nat → Hp → Prop, (∃ m, W1 0 m H4) ∧ ∀ j k H, W1 j k H →
          (J1.stop j H ∧ Nx H) ∨ (J1.go j H ∧ ∃ Nx1 : Hp → Prop, (∀ H2, Nx1 H2 → ∃ k2, k2 < k ∧ W1 (j + 1) k2 H2) ∧ ∀ x H2, J1.yld j H x H2 → g1 x (wipe σ2 vs1) H2 fun σ3 H5 => wipe σ3 vs1 = wipe σ2 vs1 ∧ tt1 σ3 H5 fun b H6 =>
            if b = true then te σ3 H6 fun y H7 => ∃ acc, H7 D = some (.lst acc) ∧ acc.length < sizeLine ∧ Nx1 (upd H7 D (.lst (acc ++ [y]))) else Nx1 H6)
        else Nx H3) := by
  refine ⟨fun i m H => m = n - i ∧ i ≤ n ∧ Pv i H, ⟨n, by simp, Nat.zero_le _, h0⟩, ?_⟩
  rintro i m H ⟨rfl, hi, p⟩
  have q := hG i H hi p
  by_cases hlt : i < n
  · refine .inr ⟨w.goes i H hlt q, Pv (i + 1), fun H2 p2 => ⟨n - (i + 1), by omega, rfl, hlt, p2⟩, fun x H2 y => hs i x H H2 hlt p (w.yields i H x H2 hlt q y)⟩
  · have e : i = n := by omega
    subst e
    exact .inl ⟨w.stops H q, hd H p⟩
/-- .. the inner -/
theorem in_it (w : Walk J n G Y) {g1 : TG} {tt1 : TT} {te : TE} {vs1 : List Nat} {σ2 : L2.St} {H4 : Hp} {D : Addr} {Nx : Hp → Prop} (Pw : Nat → Hp → Prop) (h0 : Pw 0 H4) (hG : ∀ i H, i ≤ n → Pw i H → G H)
    (hs : ∀ j x H H2, j < n → Pw j H → Y j H x H2 → g1 x (wipe σ2 vs1) H2 fun σ3 H5 => wipe σ3 vs1 = wipe σ2 vs1 ∧ tt1 σ3 H5 fun b H6 =>
      if b = true then te σ3 H6 fun y H7 => ∃ acc, H7 D = some (.lst acc) ∧ acc.length < sizeLine ∧ Pw (j + 1) (upd H7 D (.lst (acc ++ [y]))) else Pw (j + 1) H6) (hd : ∀ H, Pw n H → Nx H) :
    ∃ W1 : Nat → Nat → Hp → Prop, (∃ m, W1 0 m H4) ∧ ∀ j k H, W1 j k H →
      (J.stop j H ∧ Nx H) ∨ (J.go j H ∧ ∃ Nx1 : Hp → Prop, (∀ H2, Nx1 H2 → ∃ k2, k2 < k ∧ W1 (j + 1) k2 H2) ∧ ∀ x H2, J.yld j H x H2 → g1 x (wipe σ2 vs1) H2 fun σ3 H5 => wipe σ3 vs1 = wipe σ2 vs1 ∧ tt1 σ3 H5 fun b H6 =>
        if b = true then te σ3 H6 fun y H7 => ∃ acc, H7 D = some (.lst acc) ∧ acc.length < sizeLine ∧ Nx1 (upd H7 D (.lst (acc ++ [y]))) else Nx1 H6) := by
  refine ⟨fun i m H => m = n - i ∧ i ≤ n ∧ Pw i H, ⟨n, by simp, Nat.zero_le _, h0⟩, ?_⟩
  rintro i m H ⟨rfl, hi, p⟩
  have q := hG i H hi p
  by_cases hlt : i < n
  · refine .inr ⟨w.goes i H hlt q, Pw (i + 1), fun H2 p2 => ⟨n - (i + 1), by omega, rfl, hlt, p2⟩, fun x H2 y => hs i x H H2 hlt p (w.yields i H x H2 hlt q y)⟩
  · have e : i = n := by omega
    subst e
    exact .inl ⟨w.stops H q, hd H p⟩
end
/-- refs of tuples of ints -/
def RowsR (H : Hp) (xs : List V) (hss : List (List Int)) : Prop := Paired (fun x hs => ∃ r, x = V.ref r ∧ H r = some (.tup (hs.map V.int))) xs hss
theorem RowsR.mono {H H2 : Hp} (e : Ex H H2) : ∀ {xs : List V} {hss : List (List Int)}, RowsR H xs hss → RowsR H2 xs hss
  | _, _, .nil => .nil
  | _, _, .cons ⟨r, h1, h2⟩ t => .cons ⟨r, h1, e _ _ h2⟩ (RowsR.mono e t)
theorem RowsR.snoc {H : Hp} {r : Addr} {hs : List Int} (h : H r = some (.tup (hs.map V.int))) : ∀ {xs : List V} {hss : List (List Int)}, RowsR H xs hss → RowsR H (xs ++ [.ref r]) (hss ++ [hs])
  | _, _, .nil => .cons ⟨r, rfl, h⟩ .nil
  | _, _, .cons q t => .cons q (RowsR.snoc h t)
theorem RowsR.app {H : Hp} {ys : List V} {kss : List (List Int)} (h : RowsR H ys kss) : ∀ {xs : List V} {hss : List (List Int)}, RowsR H xs hss → RowsR H (xs ++ ys) (hss ++ kss)
  | _, _, .nil => h
  | _, _, .cons q t => .cons q (RowsR.app h t)
theorem RowsR.len {H : Hp} : ∀ {xs : List V} {hss : List (List Int)}, RowsR H xs hss → xs.length = hss.length
  | _, _, .nil => rfl
  | _, _, .cons _ t => by rw [List.length_cons, List.length_cons, RowsR.len t]
theorem RowsR.get {H : Hp} : ∀ {xs : List V} {hss : List (List Int)} {i : Nat} {x : V}, RowsR H xs hss → xs[i]? = some x → ∃ hs r, hss[i]? = some hs ∧ x = V.ref r ∧ H r = some (.tup (hs.map V.int))
  | _, _, _, _, .nil, h => by simp at h
  | _, _, 0, _, .cons ⟨r, e, q⟩ _, h => by
    simp only [List.length_cons, Nat.zero_lt_succ, List.getElem?_eq_getElem, List.getElem_cons_zero, Option.some.injEq] at h
    subst h
    exact ⟨_, r, rfl, e, q⟩
  | _, _, i + 1, _, .cons _ t, h => by
    rw [List.getElem?_cons_succ] at h ⊢
    exact RowsR.get t h
theorem RowsR.dp {K : PySem.W.Frag} {H : Hp} : ∀ {xs : List V} {hss : List (List Int)}, RowsR H xs hss → DpAll K H xs (hss.map iT)
  | _, _, .nil => .nil
  | _, _, .cons ⟨r, e, q⟩ t => by
    subst e
    exact .cons (dp_ints q) (RowsR.dp t)
/-- a list of tuples of ints -/
def RowsAt (H : Hp) (D : Addr) (hss : List (List Int)) : Prop := ∃ xs, H D = some (.lst xs) ∧ RowsR H xs hss
theorem RowsAt.mono {H H2 : Hp} {D : Addr} {hss : List (List Int)} (e : Ex H H2) (h : RowsAt H D hss) : RowsAt H2 D hss := by
  obtain ⟨xs, h1, h2⟩ := h
  exact ⟨xs, e _ _ h1, h2.mono e⟩
theorem RowsAt.dp {K : PySem.W.Frag} {H : Hp} {D : Addr} {hss : List (List Int)} (h : RowsAt H D hss) : Dp K H (.ref D) (.list (hss.map iT)) := by
  obtain ⟨xs, h1, h2⟩ := h
  exact .lst (SqL.of h1) h2.dp
theorem sh_rows {n : Nat} (hss : List (List Int)) : Sh (n + 2) (.list (hss.map iT)) := sh_list fun d hd => by
  obtain ⟨hs, _, rfl⟩ := List.mem_map.mp hd
  exact sh_ints hs
theorem eqvAll_rows : ∀ ns ms : List (List Int), PyData.eqvAll (ns.map iT) (ms.map iT) = decide (ns = ms)
  | [], [] => by simp [PyData.eqvAll]
  | [], _ :: _ => by simp [PyData.eqvAll]
  | _ :: _, [] => by simp [PyData.eqvAll]
  | n :: ns, m :: ms => by
    have ih := eqvAll_rows ns ms
    simp only [List.map_cons, PyData.eqvAll, eqv_ints, ih]
    by_cases h : n = m
    · subst h
      simp
    · simp [h]
theorem eqv_rows (ns ms : List (List Int)) : PyData.eqv (.list (ns.map iT)) (.list (ms.map iT)) = decide (ns = ms) := by
  simp only [PyData.eqv]
  exact eqvAll_rows ns ms
theorem RowsR.upd {H : Hp} {D : Addr} {acc : List V} {o : HO} (hD : H D = some (.lst acc)) : ∀ {xs : List V} {hss : List (List Int)}, RowsR H xs hss → RowsR (upd H D o) xs hss
  | _, _, .nil => .nil
  | _, _, .cons ⟨r, h1, h2⟩ t => .cons ⟨r, h1, by rw [upd_ne (ne_of h2 hD (by intro z; cases z))]; exact h2⟩ (RowsR.upd hD t)
theorem rows_push {H : Hp} {D u : Addr} {hss : List (List Int)} {ks : List Int} (h : RowsAt H D hss) (hu : H u = some (.tup (ks.map V.int))) : ∃ acc, H D = some (.lst acc) ∧ acc.length = hss.length ∧ RowsAt (upd H D (.lst (acc ++ [.ref u]))) D (hss ++ [ks]) := by
  obtain ⟨xs, h1, h2⟩ := h
  refine ⟨xs, h1, h2.len, _, upd_same, ?_⟩
  exact RowsR.snoc (by rw [upd_ne (ne_of hu h1 (by intro z; cases z))]; exact hu) (h2.upd h1)
theorem ex_upd {H H2 : Hp} {D : Addr} {o : HO} (e : Ex H H2) (hD : H D = none) : Ex H (upd H2 D o) := fun c u z => by
  rw [upd_ne (ne_of_none z hD)]
  exact e c u z
theorem ext {H H1 H2 : Hp} (a : Ex H H1) (b : Ex H1 H2) : Ex H H2 := fun c o z => b c o (a c o z)

/-! ### tuple * int, from 1 on -/
theorem u65 {k : Nat} {A : Around} (r : Room k A) : A.units + 65 < cLine := by have := r.un; omega
theorem tuple_mul1 (l : Addr) (items : Array Value) (n : Nat) (dd : Option Addr) (sl : Array (Option Value)) (x : Int) (u : Tok) (c0 : (decide (x < -(2 ^ 63)) || decide (x ≥ 2 ^ 63)) = false) (c1 : (items.isEmpty || x == 1) = true) :
    Meets (Builtin.«tuple.__mul__» ⟨[.ref l, .int x u], []⟩) (fun _ R s => s.heap.get? l = some { cls := .type "tuple", dict := dd, data := .seq items n, slots := sl } ∧ R (.ok (.ret (Value.ref l))) s) :=
  .of_wp fun prog w A R s h => by
    obtain ⟨hp, g, d, tk, os⟩ := s
    obtain ⟨hl, h⟩ := h
    have f1 := AutoSeq1.idx_int
    wp_walk using wpAny_loadPart' hl
    repeat (first
      | (refine wpAny_ite_false (decide_eq_false (by rw [c0]; exact Bool.false_ne_true)) ?_; wp_walk using wpAny_loadPart' hl)
      | (refine wpAny_ite_true (decide_eq_true c1) ?_; wp_walk using wpAny_loadPart' hl))
    exact ⟨_, rfl, h⟩
def rRepA (K : PySem.W.Frag) : R2 := fun x y H Q => ∃ l k xs, x = .ref l ∧ y = .int k ∧ SqT K H l xs ∧ xs ≠ [] ∧ 1 ≤ k ∧ k ≤ 1000 ∧ xs.length ≤ 1000 ∧ (k = 1 → Q (.ref l) H) ∧ ∀ p, H p = none → Q (.ref p) (upd H p (.tup (List.replicate k.toNat xs).flatten))
theorem op_repA {X : Cx} : OpR X (binaryOp .Mult) (rRepA X.K) := by
  intro pins s σ H x y v u Q I rx ry h
  obtain ⟨l, k, xs, ex, ey, hT, hne, h1, h2, hz, q1, q⟩ := h
  by_cases hk : k = 1
  · subst ex ey hk
    cases rx
    obtain ⟨t, rfl⟩ := ry
    obtain ⟨its, r, ⟨⟨cls, dd, data, sl⟩, ho, hc, n, hd⟩, hs⟩ := I.tuple hT
    simp only at hc hd
    subst hc hd
    refine wpAny_binaryOp_repeat_ref (T := "tuple") (U := "int") (by decide) ⟨_, ho, rfl⟩ (fun s2 => typeIs_int s2 1 t) noFill_tuple_mul PySem.F.fills_int_mul PySem.F.slot_int_rmul repeat_tuple PySem.F.slot_int_index.lookup
      (call_meets PySem.F.slot_int_rmul (typeIs_int s 1 t) PySem.F.entry_int_rmul (PySem.F.args_int_rmul_2 _ _) (int_rmul_tuple 1 t l its.toArray n dd sl)
        ⟨ho, rfl, ⟨_, ho, rfl⟩, call_meets PySem.F.slot_tuple_mul ⟨_, ho, rfl⟩ PySem.F.entry_tuple_mul (PySem.F.args_tuple_mul_2 _ _) (tuple_mul1 l its.toArray n dd sl 1 t (by decide) (by simp)) ⟨ho, ?_⟩⟩)
    exact ⟨.ref l, H, I, rfl, q1 rfl⟩
  · exact op_repT pins s σ H x y v u Q I rx ry ⟨l, k, xs, ex, ey, hT, hne, by omega, h2, hz, q⟩
/-- (x,) * k -/
theorem rep_one (x : V) (k : Nat) : (List.replicate k [x]).flatten = List.replicate k x := by
  induction k with
  | zero => rfl
  | succ k ih => rw [List.replicate_succ, List.flatten_cons, ih, List.replicate_succ]; rfl
theorem rep_ints {K : PySem.W.Frag} {H : Hp} {Q : VK} {u : Addr} {x k : Int} (hu : H u = some (.tup [.int x])) (h1 : 1 ≤ k) (h2 : k ≤ 1000) (h : ∀ q H2, Ex H H2 → H2 q = some (.tup ((List.replicate k.toNat x).map V.int)) → Q (.ref q) H2) : rRepA K (.ref u) (.int k) H Q := by
  refine ⟨u, k, [.int x], rfl, rfl, SqT.of hu, (fun z => nomatch z), h1, h2, (by show 1 ≤ 1000; decide), fun e => ?_, fun p hp => ?_⟩
  · subst e
    exact h u H exr hu
  · refine h p _ (exn hp) ?_
    rw [upd_same, rep_one, List.map_replicate]
theorem ne_same {a b : List Int} (h : a = b) : (!PyData.eqv (iT a) (iT b)) = false := by rw [h]; exact eqv_same (sh_ints b)
/-- a comprehension over a tuple of ints, by a value each -/
theorem row_in {hss : List (List Int)} {ps : List Int} (h : ps ∈ hss) : ((hss.map iT).any fun z => PyData.eqv z (iT ps)) = true := by
  rw [List.any_eq_true]
  exact ⟨iT ps, List.mem_map.mpr ⟨ps, h, rfl⟩, by rw [eqv_ints]; simp⟩
/-- a list of ints -/
abbrev iL (ns : List Int) : PyData := .list (ns.map PyData.int)
theorem sh_ilist {n : Nat} (ns : List Int) : Sh (n + 1) (iL ns) := sh_list fun d hd => by
  obtain ⟨i, _, rfl⟩ := List.mem_map.mp hd
  exact sh_int i
theorem dp_ilist {K : PySem.W.Frag} {H : Hp} {a : Addr} {ns : List Int} (h : H a = some (.lst (ns.map V.int))) : Dp K H (.ref a) (iL ns) := .lst (SqL.of h) (dpall_ints ns)
theorem eqv_ilist (ns ms : List Int) : PyData.eqv (iL ns) (iL ms) = decide (ns = ms) := by
  simp only [PyData.eqv]
  exact eqvAll_ints ns ms
theorem dec_bl {a b : Bool} (h : a = b) : (!decide (V.bl a = V.bl b)) = false := by rw [h]; simp
theorem emod_eq_iff {a b n : Int} : a % n = b % n ↔ n ∣ a - b := by
  rw [Int.emod_eq_emod_iff_emod_sub_eq_zero, Int.dvd_iff_emod_eq_zero]
/-- behind an if that changes names alone -/
theorem ifs_cutS {c : TT} {t u : TS} {D : Ends} {σ : L2.St} {H : Hp} (R : L2.St → Prop) (hR : ∀ σ2, R σ2 → D.nx σ2 H) (h : ∀ N : L2.St → Hp → Prop, (∀ σ2, R σ2 → N σ2 H) → tIfS c t u { D with nx := N } σ H) : tIfS c t u D σ H :=
  h D.nx hR

/-- a comprehension that lengthens a row by each of ks -/
theorem lc_rows {J : It} {n : Nat} {G : Hp → Prop} {Y : Nat → Hp → V → Hp → Prop} (w : Walk J n G Y) {g : TG} {te : TE} {vs : List Nat} {σ : L2.St} {H1 : Hp} {D : Addr} {Qd : Hp → Prop} (row ks : List Int) (hn : ks.length = n) (hl : n ≤ 10000000) (hD : H1 D = none)
    (hG : ∀ H, Ex H1 H → G H)
    (hs : ∀ i x H H2 (R : VK), i < n → Ex H1 H → Y i H x H2 → (∀ k v H5, Ex H H5 → ks[i]? = some k → H5 v = some (.tup ((row ++ [k]).map V.int)) → R (.ref v) H5) → g x (wipe σ vs) H2 fun σ2 H3 => wipe σ2 vs = wipe σ vs ∧ te σ2 H3 R)
    (hg : ∀ x σ2 H2 (R R2 : L2.St → Hp → Prop), (∀ σ3 H3, R σ3 H3 → R2 σ3 H3) → g x σ2 H2 R → g x σ2 H2 R2)
    (hd : ∀ H, Ex H1 H → RowsAt H D (ks.map fun k => row ++ [k]) → Qd H) :
    ∃ W : Nat → Nat → Hp → Prop, (∃ m, W 0 m (upd H1 D (.lst []))) ∧ ∀ i m H, W i m H →
      (J.stop i H ∧ Qd H) ∨ (J.go i H ∧ ∃ Nx : Hp → Prop, (∀ H2, Nx H2 → ∃ m2, m2 < m ∧ W (i + 1) m2 H2) ∧ ∀ x H2, J.yld i H x H2 → g x (wipe σ vs) H2 fun σ2 H3 => wipe σ2 vs = wipe σ vs ∧ tYes σ2 H3 fun b H4 =>
        if b = true then te σ2 H4 fun y H5 => ∃ acc, H5 D = some (.lst acc) ∧ acc.length < sizeLine ∧ Nx (upd H5 D (.lst (acc ++ [y]))) else Nx H4) := by
  refine lc_it w (fun i H => Ex H1 H ∧ RowsAt H D ((ks.take i).map fun k => row ++ [k])) ⟨exn hD, _, upd_same, .nil⟩ (fun i H _ p => hG H p.1) (fun i x H H2 hi p y => ?_) (fun H p => hd H p.1 (by have := p.2; rwa [List.take_of_length_le (by rw [hn]; exact Nat.le_refl _)] at this))
  refine hg _ _ _ _ _ (fun σ3 H3 q => ⟨q.1, q.2⟩) (hs i x H H2 (fun y H5 => ∃ acc, H5 D = some (.lst acc) ∧ acc.length < sizeLine ∧ Ex H1 (upd H5 D (.lst (acc ++ [y]))) ∧ RowsAt (upd H5 D (.lst (acc ++ [y]))) D ((ks.take (i + 1)).map fun k => row ++ [k])) hi p.1 y fun k v H5 e hk hv => ?_)
  obtain ⟨acc, h1, h2, h3⟩ := rows_push (p.2.mono e) hv
  refine ⟨acc, h1, ?_, ex_upd (ext p.1 e) hD, ?_⟩
  · rw [h2, List.length_map, List.length_take]
    exact Nat.lt_of_le_of_lt (Nat.le_trans (Nat.min_le_right _ _) (by rw [hn]; exact hl)) (by decide)
  · rw [take_more hk, List.map_append]
    exact h3
/-- row + (k,) -/
theorem cat_row {K : PySem.W.Frag} {H : Hp} {Q : VK} {r u : Addr} {row : List Int} {k : Int} (hr : H r = some (.tup (row.map V.int))) (hu : H u = some (.tup [.int k])) (hl : row.length ≤ 1000) (h : ∀ v H5, Ex H H5 → H5 v = some (.tup ((row ++ [k]).map V.int)) → Q (.ref v) H5) : rCatA K (.ref r) (.ref u) H Q := by
  refine ⟨r, u, row.map V.int, [.int k], rfl, rfl, SqT.of hr, SqT.of hu, ?_, fun z => ?_, fun _ z => (nomatch z), fun _ _ v hv => ?_⟩
  · rw [List.length_map]
    exact Nat.le_trans (show _ + 1 ≤ 1001 by omega) (by decide)
  · have : row = [] := List.map_eq_nil_iff.mp z
    subst this
    exact h u H exr hu
  · refine h v _ (exn hv) ?_
    rw [upd_same, List.map_append]
    rfl
theorem rows_ext {H : Hp} {D E : Addr} {hss kss : List (List Int)} (h1 : RowsAt H D hss) (h2 : RowsAt H E kss) (ne : D ≠ E) : ∃ xs zs, H D = some (.lst xs) ∧ H E = some (.lst zs) ∧ xs.length = hss.length ∧ zs.length = kss.length ∧ RowsAt (upd H D (.lst (xs ++ zs))) D (hss ++ kss) := by
  obtain ⟨xs, a1, a2⟩ := h1
  obtain ⟨zs, b1, b2⟩ := h2
  exact ⟨xs, zs, a1, b1, a2.len, b2.len, _, upd_same, RowsR.app (b2.upd a1) (a2.upd a1)⟩

theorem eqT {i j : Int} (h : decide (V.int i = V.int j) = true) : i = j := V.int.inj (of_decide_eq_true h)
theorem eqF {i j : Int} (h : ¬decide (V.int i = V.int j) = true) : i ≠ j := fun z => h (decide_eq_true (by rw [z]))
/-- behind an if -/
theorem ifs_cutG {c : TT} {t u : TS} {D : Ends} {σ : L2.St} {H : Hp} (R : L2.St → Hp → Prop) (hR : ∀ σ2 H2, R σ2 H2 → D.nx σ2 H2) (h : ∀ N : L2.St → Hp → Prop, (∀ σ2 H2, R σ2 H2 → N σ2 H2) → tIfS c t u { D with nx := N } σ H) : tIfS c t u D σ H :=
  h D.nx hR
theorem exG {H H4 : Hp} {p : Addr} {o : HO} (h : upd H p o = H4) (n : H p = none) : Ex H H4 := h ▸ exn n
theorem atG {H H4 : Hp} {p : Addr} {o : HO} (h : upd H p o = H4) : H4 p = some o := h ▸ upd_same
theorem slen {n : Nat} (h : Nat.ble n 1000 = true) : n ≤ sizeLine := Nat.le_trans (Nat.le_of_ble_eq_true h) (by decide)
/-- a comprehension with a test: what passes, by f -/
theorem lc_filt {α : Type} {J : It} {n : Nat} {G : Hp → Prop} {Y : Nat → Hp → V → Hp → Prop} (w : Walk J n G Y) {g : TG} {tt : TT} {te : TE} {vs : List Nat} {σ : L2.St} {H1 : Hp} {D : Addr} {Qd : Hp → Prop} (xs : List α) (c : α → Bool) (f : α → V) (hn : xs.length = n) (hl : n ≤ 10000000) (hD : H1 D = none)
    (hG : ∀ H, Ex H1 H → G H)
    (hs : ∀ i x a H H2 (R : VK) (S : Hp → Prop), xs[i]? = some a → Ex H1 H → Y i H x H2 → (∀ y H5, Ex H H5 → c a = true → y = f a → R y H5) → (∀ H4, Ex H H4 → c a = false → S H4) → g x (wipe σ vs) H2 fun σ2 H3 => wipe σ2 vs = wipe σ vs ∧ tt σ2 H3 fun b H4 => if b = true then te σ2 H4 R else S H4)
    (hd : ∀ H, Ex H1 H → H D = some (.lst ((xs.filter c).map f)) → Qd H) :
    ∃ W : Nat → Nat → Hp → Prop, (∃ m, W 0 m (upd H1 D (.lst []))) ∧ ∀ i m H, W i m H →
      (J.stop i H ∧ Qd H) ∨ (J.go i H ∧ ∃ Nx : Hp → Prop, (∀ H2, Nx H2 → ∃ m2, m2 < m ∧ W (i + 1) m2 H2) ∧ ∀ x H2, J.yld i H x H2 → g x (wipe σ vs) H2 fun σ2 H3 => wipe σ2 vs = wipe σ vs ∧ tt σ2 H3 fun b H4 =>
        if b = true then te σ2 H4 fun y H5 => ∃ acc, H5 D = some (.lst acc) ∧ acc.length < sizeLine ∧ Nx (upd H5 D (.lst (acc ++ [y]))) else Nx H4) := by
  refine lc_out w (fun i => ((xs.take i).filter c).map f) (by simp) hD (fun i hi => ?_) hG (fun i x H H2 Nx hi e hDi y kA kN => ?_) (fun H e h => hd H e ?_)
  · rw [List.length_map]
    refine Nat.lt_of_le_of_lt (Nat.le_trans (List.length_filter_le _ _) (Nat.le_trans (by rw [List.length_take]; exact Nat.min_le_right _ _) (by rw [hn]; exact hl))) (by decide)
  · obtain ⟨a, ha⟩ : ∃ a, xs[i]? = some a := ⟨xs[i]'(by omega), List.getElem?_eq_getElem (by omega)⟩
    refine hs i x a H H2 _ _ ha e y (fun y2 H5 e5 hc hy => kA y2 H5 e5 ?_) (fun H4 e4 hc => kN H4 e4 ?_)
    · rw [take_more ha, List.filter_append, List.map_append, hy]
      simp [hc]
    · rw [take_more ha, List.filter_append, List.map_append]
      simp [hc]
  · rw [h, List.take_of_length_le (by rw [hn]; exact Nat.le_refl _)]
/-- rows that pass a test -/
theorem RowsR.filt {H : Hp} (c : List Int → Bool) : ∀ {xs : List V} {hss : List (List Int)}, RowsR H xs hss → RowsR H (((xs.zip hss).filter fun z => c z.2).map fun z => z.1) (hss.filter c)
  | _, _, .nil => .nil
  | _, _, .cons (a := x) (b := hs) q t => by
    have ih := RowsR.filt c t
    rw [List.zip_cons_cons]
    cases e : c hs with
    | false =>
      rw [List.filter_cons_of_neg (by simp [e]), List.filter_cons_of_neg (by simp [e])]
      exact ih
    | true =>
      rw [List.filter_cons_of_pos (by simp [e]), List.filter_cons_of_pos (by simp [e])]
      exact .cons q ih
theorem zip_at2 {α β : Type} {l : List α} {m : List β} {i : Nat} {z : α × β} (h : (l.zip m)[i]? = some z) : l[i]? = some z.1 ∧ m[i]? = some z.2 := by
  rw [List.getElem?_zip_eq_some] at h
  exact h
/-- tuple(s), s a list or a tuple -/
theorem tup_of {K : PySem.W.Frag} {H : Hp} {q : Bool × Addr} {xs : List V} {Q : VK} (h : SqH H q xs) (k : ∀ t H2, Ex H H2 → H2 t = some (.tup xs) → Q (.ref t) H2) : (SqL K H q.2 xs ∧ ∀ p, H p = none → Q (.ref p) (upd H p (.tup xs))) ∨ SqT K H q.2 xs ∧ Q (.ref q.2) H := by
  obtain ⟨b, a⟩ := q
  cases b
  · exact .inl ⟨SqL.of (show H a = some (.lst xs) from h), fun p hp => k p _ (exn hp) upd_same⟩
  · exact .inr ⟨SqT.of (show H a = some (.tup xs) from h), k a H exr h⟩
def rTupQ : List V → Hp → VK → Prop := fun vs H Q => ∃ (q : Bool × Addr) (xs : List V), vs = [.ref q.2] ∧ SqH H q xs ∧ ∀ t H2, Ex H H2 → H2 t = some (.tup xs) → Q (.ref t) H2
theorem call_tuple_q {X : Cx} : CallR X (.type "tuple") rTupQ := by
  intro pins s σ H vs us Q I r h
  obtain ⟨q, xs, rfl, hq, k⟩ := h
  exact call_tuple_of pins s σ H _ us Q I r ⟨q.2, xs, rfl, tup_of hq k⟩
theorem SqH.uniq {H : Hp} {q : Bool × Addr} {xs ys : List V} (h1 : SqH H q xs) (h2 : SqH H q ys) : xs = ys := by
  obtain ⟨b, a⟩ := q
  cases b
  · have e : some (HO.lst xs) = some (HO.lst ys) := (show H a = some (.lst xs) from h1).symm.trans (show H a = some (.lst ys) from h2)
    injection e with e
    injection e
  · have e : some (HO.tup xs) = some (HO.tup ys) := (show H a = some (.tup xs) from h1).symm.trans (show H a = some (.tup ys) from h2)
    injection e with e
    injection e
theorem RowsR.monoT {H H2 : Hp} (e : ∀ c xs, H c = some (.tup xs) → H2 c = some (.tup xs)) : ∀ {xs : List V} {hss : List (List Int)}, RowsR H xs hss → RowsR H2 xs hss
  | _, _, .nil => .nil
  | _, _, .cons ⟨r, h1, h2⟩ t => .cons ⟨r, h1, e _ _ h2⟩ (RowsR.monoT e t)

-- exceptions
/-- an error of the class at S is what «except S» names -/
theorem exm_self {K : PySem.W.Frag} {S : Addr} (h1 : PySem.W.subIn K (.ref S) (.type "BaseException") = some true) (h2 : PySem.W.isClsIn K S = true) (h3 : PySem.W.typeIn K (.ref S) = some (.type "type")) (h4 : PySem.W.subIn K (.ref S) (.ref S) = some true) :
    PySem.W.exmOne K (.ref S) (.ref S) = some true := by
  have e1 : (PySem.W.subIn K (.ref S) (.type "BaseException") == some true) = true := by rw [h1] <;> rfl
  have e2 : ((PySem.W.clsIn K S).isSome && PySem.W.typeIn K (.ref S) == some (.type "type")) = true := by
    have h2' : (PySem.W.clsIn K S).isSome = true := h2
    rw [h2', h3] <;> rfl
  show (if (PySem.W.subIn K (.ref S) (.type "BaseException") == some true) = true then (if ((PySem.W.clsIn K S).isSome && PySem.W.typeIn K (.ref S) == some (.type "type")) = true then PySem.W.subIn K (.ref S) (.ref S) else none) else none) = some true
  rw [if_pos e1, if_pos e2]
  exact h4
/-- what the first clause 'except x as n' wishes of an exception of the body that it takes: slot i is n's -/
def wAs1 (K : PySem.W.Frag) (c : Value) (i : Nat) (ts : Addr → Value → Option Addr → TS) (D : Ends) : WX := fun cls d σ H =>
  PySem.W.exmOne K cls c = some true ∧ ∀ a, H a = none → ts a cls d { nx := fun σ' H' => D.nx (σ'.set i none) H', rt := D.rt, bk := fun σ' H' => D.bk (σ'.set i none) H', ct := fun σ' H' => D.ct (σ'.set i none) H' } (σ.set i (some (.ref a))) H
/-- try, where the first clause takes what the body raises; what the other clauses are is all one -/
theorem ps_try_as1 {X : Cx} {x n : Str} {c : Value} {i : Nat} {body suite : List Stmt} {b₀ : Stmt} {np pos pos' : Pos} {hds : List ExceptHandler} {tb : WX → TS} {ts : Addr → Value → Option Addr → TS} (hs : X.stack = X.env :: X.outer) (hf : X.env.frame = some X.env.locals) (hN : X.N.Nodup) (hi : X.N[i]? = some n) (hln : X.env.kindOf n = some .local) (hc : Names X x c)
    (hb : ∀ (W : WX) (pn : List (Addr × Obj)) (xe : Value → Shared → Prop), Takes (X.tr pn xe) W → PassesOwn (model X.prog X.w) X.A X.env xe → PSs (X.tr pn xe) body (tb W))
    (hsu : ∀ (a : Addr) (oe : Obj) (cls : Value) (d : Option Addr) (pn : List (Addr × Obj)), Zc cls d oe → (∃ vs, oe.data = .fields vs) → PSs (X.suite a ((a, oe) :: pn)) (b₀ :: suite) (ts a cls d)) :
    PS X (.Try body (.ExceptHandler (some (.Name x np)) (some n) (b₀ :: suite) pos' :: hds) [] [] pos) (fun D σ H => tb (wAs1 X.K c i ts D) D σ H) := by
  refine ⟨fun pins s σ H D I h => ?_⟩
  have ok := I.ok
  have hfr : X.A.frames = some (X.env :: X.outer) := by rw [ok.frames, hs]
  have hloc : Loc X.env.scope n := .inl hln
  refine wpAny_Try_except ?_
  refine wpAny_mono ((hb (wAs1 X.K c i ts D) (X.pn ++ pins) (fun e s₁ => wpAny (model X.prog X.w) X.A (noteFrame e X.env) (fun _ s₂ => wpAny (model X.prog X.w) X.A (setFlight e none) (fun _ s₃ =>
    wpAny (model X.prog X.w) X.A (handleBy e X.env (.ExceptHandler (some (.Name x np)) (some n) (b₀ :: suite) pos' :: hds)) (SP X pins D) X.xe s₃) X.xe s₂) X.xe s₁) (fun u s' xx => ?_) PassesOwn.looking).run [] s σ H D (I.toTry _) h) (fun f s1 hsp => ?_) (fun e s1 he => he)
  · obtain ⟨a, B, sI, pins', σ', H', cls, d, rfl, J', nb, up, sky, na, os, ag, hb1, hyes⟩ := xx
    have J : Inv X pins σ' H' sI := J'.ofTry ok
    have sky' : Sky B (X.env :: X.outer) a (Zc cls d) X.env.locals s'.heap := by rw [← hs]; exact sky
    show wpAny (model X.prog X.w) X.A (noteFrame (.ref a) X.env) _ _ _
    refine Sky.land Zc.steady hfr hf sky' fun h3 fl3 up3 => ?_
    have J3 : Inv X pins σ' H' { s' with heap := h3 } := J.landed nb fl3.1 (up.trans up3) os ag
    obtain ⟨oe3, vs3, he3, hz3, hd3⟩ := fl3.there
    have notFr : ∀ {h : Heap} {o : Obj} {vs : Array Value}, h.FunFrames B (X.env :: X.outer) → h.get? a = some o → o.data = .fields vs → a ∉ frs (X.env :: X.outer) := fun {h o vs} ff e dd hm => by
      obtain ⟨_, o', e', hnf⟩ := ff.mem hm
      rw [e] at e'; cases e'
      exact hnf _ dd
    have nfr := notFr fl3.2.2.1 he3 hd3
    have nL : a ≠ X.env.locals := fun z => nfr (List.mem_filterMap.mpr ⟨X.env, List.mem_cons_self, by rw [hf, z]⟩)
    have nF : a ∉ X.fs := fun hm => by
      obtain ⟨e, he, q⟩ := List.mem_filterMap.mp hm
      exact nfr (List.mem_filterMap.mpr ⟨e, List.mem_cons_of_mem _ he, q⟩)
    have S3 := J3.suite he3 hd3 na nL nF
    refine wpAny_handleBy_cons (codeAny_handlers_test ?_) (by intro q; cases q)
    have LT : PySem.W.Looks (model X.prog X.w) h3 (typeOf (.ref a)) cls := fun A Q E s k q => wpAny_typeOf_ref (k _ _ he3) (by rw [hz3.1]; exact q)
    have LM := PySem.W.exm_one (M := model X.prog X.w) (J3.kIn) LT hb1
    have test : ∀ {Q : Value → Shared → Prop} {E : Value → Shared → Prop}, Q c { s' with heap := h3 } → wpAny (model X.prog X.w) (X.A.mark (some (.ref a))) (eval (.Name x np) X.env) Q E { s' with heap := h3 } := fun {Q E} q => by
      obtain ⟨hg, hdbg, hm | ⟨hm, hv, hnn⟩⟩ := hc
      · exact ld_glob (X := X.suite a ((a, oe3) :: (X.pn ++ pins))) S3 hg hm q hdbg
      · exact ld_blt (X := X.suite a ((a, oe3) :: (X.pn ++ pins))) S3 hg hm hv q hnn hdbg
    refine test (LM.here ?_)
    refine codeAny_handlers_suite_as ?_
    refine HandSPX.lands_againZ fl3 fun h4 fl4 up4 => ?_
    have J4 : Inv X pins σ' H' { s' with heap := h4 } := J.landed nb fl4.1 ((up.trans up3).trans up4) os ag
    obtain ⟨oe4, vs4, he4, hz4, hd4⟩ := fl4.there
    have S4 := J4.suite he4 hd4 na nL nF
    refine store_ok (X := X.suite a ((a, oe4) :: (X.pn ++ pins))) (v := .ref a) S4 hN hi hloc rfl (fun s5 S5 => ?_) (.inr hln)
    refine wpAny_mono ((hsu a oe4 cls d (X.pn ++ pins) hz4 ⟨_, hd4⟩).run [] s5 _ H' _ S5 (hyes a na)) (fun f s6 hsp => ?_) (fun _ _ z => False.elim z)
    have end_ : ∀ {σ6 : L2.St} {H6 : Hp} {Q : Shared → Prop}, Inv (X.suite a ((a, oe4) :: (X.pn ++ pins))) [] σ6 H6 s6 → (∀ s7, Inv X pins (σ6.set i none) H6 s7 → Q s7) →
        wpAny (model X.prog X.w) X.A (do bindName X.env n .none; unbindBehindTheSuite X.env n pos') (fun _ s7 => Q s7) X.xe s6 := fun {σ6 H6 Q} S6 hq => gone_ok (S6.unsuite ok) hN hi hln hq
    cases f with
    | next =>
      obtain ⟨σ6, H6, S6, q6⟩ := hsp
      exact end_ S6 fun s7 J7 => ⟨_, _, J7, q6⟩
    | brk =>
      obtain ⟨σ6, H6, S6, q6⟩ := hsp
      exact end_ S6 fun s7 J7 => ⟨_, _, J7, q6⟩
    | cont =>
      obtain ⟨σ6, H6, S6, q6⟩ := hsp
      exact end_ S6 fun s7 J7 => ⟨_, _, J7, q6⟩
    | ret u =>
      obtain ⟨v6, σ6, H6, S6, r6, q6⟩ := hsp
      exact end_ S6 fun s7 J7 => ⟨_, _, _, J7, r6, q6⟩
  · cases f with
    | next =>
      obtain ⟨σ', H', J', q⟩ := hsp
      exact wpAny_execs_nil ⟨σ', H', J'.ofTry ok, q⟩
    | brk =>
      obtain ⟨σ', H', J', q⟩ := hsp
      exact ⟨σ', H', J'.ofTry ok, q⟩
    | cont =>
      obtain ⟨σ', H', J', q⟩ := hsp
      exact ⟨σ', H', J'.ofTry ok, q⟩
    | ret u =>
      obtain ⟨v, σ', H', J', r, q⟩ := hsp
      exact ⟨v, σ', H', J'.ofTry ok, r, q⟩

-- exceptions of a class under the one that the clause names; a method that raises inside of try
/-- an error of a class S under B is what «except B» names -/
theorem exm_base {K : PySem.W.Frag} {S B : Addr} (h1 : PySem.W.subIn K (.ref B) (.type "BaseException") = some true) (h2 : PySem.W.isClsIn K B = true) (h3 : PySem.W.typeIn K (.ref B) = some (.type "type")) (h4 : PySem.W.subIn K (.ref S) (.ref B) = some true) :
    PySem.W.exmOne K (.ref S) (.ref B) = some true := by
  have e1 : (PySem.W.subIn K (.ref B) (.type "BaseException") == some true) = true := by rw [h1] <;> rfl
  have e2 : ((PySem.W.clsIn K B).isSome && PySem.W.typeIn K (.ref B) == some (.type "type")) = true := by
    have h2' : (PySem.W.clsIn K B).isSome = true := h2
    rw [h2', h3] <;> rfl
  show (if (PySem.W.subIn K (.ref B) (.type "BaseException") == some true) = true then (if ((PySem.W.clsIn K B).isSome && PySem.W.typeIn K (.ref B) == some (.type "type")) = true then PySem.W.subIn K (.ref S) (.ref B) else none) else none) = some true
  rw [if_pos e1, if_pos e2]
  exact h4
/-- o.m(e, ..), which may raise; what it lets out is told at the slots -/
def tMethP (C : Addr) (m : Str) (sp : Sp) (E : L2.St → XK) (ta : TE) (t : TA) : TE := fun σ H Q => ta σ H fun x H1 => ∃ a dx fs, x = .ref a ∧ H1 a = some (.ins C dx fs) ∧ fs.lookup m = none ∧ t σ H1 fun vs H2 => sp (.ref a :: vs) H2 Q (E σ)
theorem pe_methP {X : Cx} {CX : CXT} {k : Nat} {f C : Addr} {fd : FuncData} {ps : List Str} {sp : Sp} {E : L2.St → XK} {m : Str} {pos apos : Pos} {e o : Expr} {es : List Expr} {ta : TE} {t : TA} {pl : Sem Bool} (he : PE X o ta) (c : Cls X.K C) (hm : Meth X.K C m f) (F : FnOk X.prog X.w X.K X.mg X.base CX k f fd ps sp) (hr : Room k X.A) (hb : Binds X.K fd ps []) (hx : ∀ σ, PassesAt CX X σ (E σ)) (ha : PA X (e :: es) t)
    (hst : starEach (e :: es) X.env = (false, eval e X.env) :: starEach es X.env := by rfl) (hpl : (backTo pos (starEach es X.env)).any (·.1) = false := by rfl)
    (ht : eval (.Call (.Attribute o m apos) (e :: es) [] pos) X.env = (do
      let ov ← eval o X.env
      standAt apos.atName
      let (f, first) ← holding [ov] (getMethod ov m pl)
      callWith pos f first (backTo pos (starEach (e :: es) X.env)) (backToKw pos (keywordEach [] X.env))) := by rfl) :
    PE X (.Call (.Attribute o m apos) (e :: es) [] pos) (tMethP C m sp E ta t) := by
  refine ⟨fun pins s σ H Q I h => ?_⟩
  refine PySem.W.methodCall_KW (pl := pl) (thn (he.run pins s σ H _ I h) fun u s1 ⟨x, H1, I1, rx, a, dx, fs, ex, ea, l, q⟩ => ?_) ht
  subst ex
  obtain rfl : u = Value.ref a := rx
  refine getmeth_ok I1 ea c hm l ?_
  refine PySem.W.callWith_K (first := [.ref a]) (h₀ := X.base) I.ok.mod.kin hm.kp (thn (ha.run pos pins s1 σ H1 _ I1 q) fun us s2 ⟨vs, H2, I2, r, q2⟩ => ⟨I2.kIn, ?_⟩) hst hpl
  exact run_fnS (us := .ref a :: us) (vs := .ref a :: vs) F hr hb (hx σ) I2 (.cons rfl r) q2

theorem shift_back {f : Int} : ∀ {ns ps cs : List Int}, SeatOk ns ps → cs.length = ns.length → shiftL ns (shiftL ns ps cs f) cs (-f) = ps
  | [], [], [], _, _ => rfl
  | n :: ns, p :: ps, c :: cs, h, l => by
    show ((p + f * c) % n + -f * c) % n :: _ = _
    rw [shift_back h.2 (Nat.succ.inj l), Int.emod_add_emod, Int.neg_mul, Int.add_neg_cancel_right, Int.emod_eq_of_lt h.1.1 h.1.2]
theorem shift_neg {f : Int} : ∀ {ns ps cs : List Int}, shiftL ns ps (cs.map fun c => 0 - c) f = shiftL ns ps cs (-f)
  | [], _, _ => by cases ‹List Int› <;> simp [shiftL]
  | _ :: _, [], _ => by simp [shiftL]
  | _ :: _, _ :: _, [] => by simp [shiftL]
  | n :: ns, p :: ps, c :: cs => by
    show (p + f * (0 - c)) % n :: _ = (p + -f * c) % n :: _
    rw [shift_neg, Int.zero_sub, Int.mul_neg, Int.neg_mul]
theorem shift_comm {f g : Int} : ∀ {ns ps cs ds : List Int}, ps.length = ns.length → cs.length = ns.length → ds.length = ns.length → shiftL ns (shiftL ns ps cs f) ds g = shiftL ns (shiftL ns ps ds g) cs f
  | [], [], [], [], _, _, _ => rfl
  | n :: ns, p :: ps, c :: cs, d :: ds, l1, l2, l3 => by
    show ((p + f * c) % n + g * d) % n :: _ = ((p + g * d) % n + f * c) % n :: _
    rw [shift_comm (Nat.succ.inj l1) (Nat.succ.inj l2) (Nat.succ.inj l3), Int.emod_add_emod, Int.emod_add_emod, Int.add_right_comm]
theorem shift_seat {f : Int} : ∀ {ns ps cs : List Int}, (∀ n ∈ ns, 1 ≤ n) → ps.length = ns.length → cs.length = ns.length → SeatOk ns (shiftL ns ps cs f)
  | [], [], [], _, _, _ => True.intro
  | n :: ns, p :: ps, c :: cs, h, l1, l2 => by
    have n1 := h n List.mem_cons_self
    exact ⟨⟨Int.emod_nonneg _ (by omega), Int.emod_lt_of_pos _ (by omega)⟩, shift_seat (fun m hm => h m (List.mem_cons_of_mem _ hm)) (Nat.succ.inj l1) (Nat.succ.inj l2)⟩
theorem shift_same {f g : Int} : ∀ {ns ps cs : List Int}, ps.length = ns.length → cs.length = ns.length → (shiftL ns ps cs f = shiftL ns ps cs g ↔ ∀ z ∈ cs.zip ns, z.2 ∣ (f - g) * z.1)
  | [], [], [], _, _ => by simp [shiftL]
  | n :: ns, p :: ps, c :: cs, l1, l2 => by
    have e : p + f * c - (p + g * c) = (f - g) * c := by rw [Int.sub_mul]; omega
    show (p + f * c) % n :: _ = (p + g * c) % n :: _ ↔ _
    rw [List.cons.injEq, shift_same (Nat.succ.inj l1) (Nat.succ.inj l2), emod_eq_iff, e, List.zip_cons_cons, List.forall_mem_cons]
theorem shift_zero : ∀ {ns ps cs : List Int}, SeatOk ns ps → cs.length = ns.length → shiftL ns ps cs 0 = ps
  | [], [], [], _, _ => rfl
  | n :: ns, p :: ps, c :: cs, h, l => by
    show (p + 0 * c) % n :: _ = _
    rw [shift_zero h.2 (Nat.succ.inj l), Int.zero_mul, Int.add_zero, Int.emod_eq_of_lt h.1.1 h.1.2]
/-- a call times k -/
theorem shift_times {k : Int} : ∀ {ns ps cs : List Int}, shiftL ns ps (cs.map fun c => c * k) 1 = shiftL ns ps cs k
  | [], _, _ => by cases ‹List Int› <;> simp [shiftL]
  | _ :: _, [], _ => by simp [shiftL]
  | _ :: _, _ :: _, [] => by simp [shiftL]
  | n :: ns, p :: ps, c :: cs => by
    show (p + 1 * (c * k)) % n :: _ = (p + k * c) % n :: _
    rw [shift_times, Int.one_mul, Int.mul_comm c]
theorem zero_seat : ∀ {ns : List Int}, (∀ n ∈ ns, 1 ≤ n) → SeatOk ns (List.replicate ns.length 0)
  | [], _ => True.intro
  | n :: ns, h => ⟨⟨Int.le_refl _, by have := h n List.mem_cons_self; omega⟩, zero_seat fun m hm => h m (List.mem_cons_of_mem _ hm)⟩

/-- Table(..) -/
theorem mk_tab {C a : Addr} {b : Bool} {H : Hp} {ns : List Int} {R : Addr → Hp → Prop} {E : XK} (hq : SqH H (b, a) (ns.map V.int)) (ok : SzOk ns) (k : ∀ x H2, Ex H H2 → H x = none → TabAt C H2 x ns → R x H2) :
    ∀ x dx, H x = none → H dx = none → dx ≠ x → sp_Table_init C [.ref x, .ref a] (upd (upd H dx (.own x)) x (.ins C dx [])) (fun v H2 => v = .non ∧ R x H2) E := by
  intro x dx nx ndx _
  have exB : Ex H (upd (upd H dx (.own x)) x (.ins C dx [])) := fun c o z => by
    rw [upd_ne (ne_of_none z nx), upd_ne (ne_of_none z ndx)]
    exact z
  refine ⟨x, dx, (b, a), ns, rfl, upd_same, hq.mono exB, ok, fun H3 k3 ht3 => ⟨rfl, ?_⟩⟩
  obtain ⟨t, g1, g2⟩ := ht3
  exact k x H3 (fun c o z => k3 c o (ne_of_none z nx) (exB c o z)) nx ⟨dx, t, g1, g2⟩
theorem eqN {i j : Int} (h : ¬(!decide (V.int i = V.int j)) = true) : i = j := by
  by_cases e : i = j
  · exact e
  · exact absurd (by simp [e]) h
/-! ### lists and tuples alike -/
theorem cut_from (xs : List V) (k : Nat) : cutV xs (some (k : Int)) none = xs.drop k := by
  unfold cutV
  rw [HT.sIx_nat, HT.sIx_none]
  by_cases h : k ≤ xs.length
  · rw [Nat.min_eq_left h]
    exact List.take_of_length_le (by rw [List.length_drop]; omega)
  · rw [Nat.min_eq_right (by omega), List.drop_of_length_le (Nat.le_refl _), List.drop_of_length_le (by omega)]
    simp
theorem cut_to (xs : List V) (k : Nat) : cutV xs none (some (k : Int)) = xs.take k := by
  unfold cutV
  rw [HT.sIx_nat, HT.sIx_none, List.drop_zero, Nat.sub_zero]
  by_cases h : k ≤ xs.length
  · rw [Nat.min_eq_left h]
  · rw [Nat.min_eq_right (by omega), List.take_of_length_le (Nat.le_refl _), List.take_of_length_le (by omega)]
theorem cut_whole {xs : List V} {lo hi : Option Int} (h : HT.sIx xs.length 0 lo = 0 ∧ HT.sIx xs.length xs.length hi = xs.length) : cutV xs lo hi = xs := by
  unfold cutV
  rw [h.1, h.2, List.drop_zero, Nat.sub_zero, List.take_of_length_le (Nat.le_refl _)]
def rIxQ (K : PySem.W.Frag) : R2 := fun x y H Q => ∃ (q : Bool × Addr) (xs : List V) (i : Int) (v : V), x = .ref q.2 ∧ y = .int i ∧ CZ.SqK K H q xs ∧ atI xs i = some v ∧ Q v H
theorem ix_q {X : Cx} : IxR X (rIxQ X.K) := by
  intro value slice pins s σ H x y v u Q I rx ry h hsub
  obtain ⟨⟨b, a⟩, xs, i, z, rfl, rfl, hq, hz, q⟩ := h
  cases b
  · exact ix_list value slice pins s σ H _ _ v u Q I rx ry ⟨a, xs, i, z, rfl, rfl, hq, hz, q⟩ hsub
  · exact ix_tup value slice pins s σ H _ _ v u Q I rx ry ⟨a, xs, i, z, rfl, rfl, hq, hz, q⟩ hsub
def rSlQ : V → Option Int → Option Int → Hp → VK → Prop := fun x lo hi H Q => ∃ (q : Bool × Addr) (xs : List V), x = .ref q.2 ∧ SqH H q xs ∧ ∀ p H2, Ex H H2 → SqH H2 (q.1, p) (cutV xs lo hi) → Q (.ref p) H2
theorem sl_q {X : Cx} : SlR X rSlQ := by
  intro pins s σ H x v vl vu lo hi sl Q I rx hs pl pu h
  obtain ⟨⟨b, a⟩, xs, rfl, hq, k⟩ := h
  cases b
  · exact sl_list pins s σ H _ v vl vu lo hi sl Q I rx hs pl pu ⟨a, xs, rfl, SqL.of (show H a = some (.lst xs) from hq), fun p hp => k p _ (exn hp) upd_same⟩
  · exact sl_tupA pins s σ H _ v vl vu lo hi sl Q I rx hs pl pu ⟨a, xs, rfl, SqT.of (show H a = some (.tup xs) from hq), fun hw => k a H exr (by rw [cut_whole hw]; exact hq), fun _ p hp => k p _ (exn hp) upd_same⟩

/-- the greatest common divisor -/
abbrev gcdI (a b : Int) : Int := ((Int.gcd a b : Nat) : Int)
theorem gcd_pos2 {p n : Int} (h : 1 ≤ n) : 0 < Int.gcd p n := Int.gcd_pos_of_ne_zero_right _ (by omega)
theorem gcd_turn {a b : Int} (hb : b ≠ 0) : Int.gcd b (a % b) = Int.gcd a b := by
  rw [Int.gcd_comm b, Int.emod_def, Int.sub_eq_add_neg, ← Int.mul_neg, Int.gcd_add_mul_left_left]
theorem abs45 {n : Int} (h1 : 0 ≤ n) (h2 : n ≤ 10 ^ 45) : n.natAbs < 2 ^ 150 := by
  have h5 : (10 : Int) ^ 45 < 2 ^ 150 := by decide
  have h8 : ((2 ^ 150 : Nat) : Int) = (2 : Int) ^ 150 := by simp
  omega
section
variable {P : Program} {w : World} {K : PySem.W.Frag} {mg : Str → Option Value} {base : Heap}
def sp_greatest_common_divisor : Sp := fun vs H Q _ => ∃ a b : Int, vs = [.int a, .int b] ∧ 0 ≤ a ∧ 0 ≤ b ∧ Q (.int (gcdI a b)) H
theorem ok_greatest_common_divisor (T : TX K mg) : FnOk P w K mg base CX0 1 T.f_greatest_common_divisor T.fd_greatest_common_divisor ["first", "second"] sp_greatest_common_divisor := by
  refine T.F_greatest_common_divisor.ok sc_greatest_common_divisor (fun vs H Q E h => ?_) (fun cdv A outer s H vs Q E hr h => ?_)
  · obtain ⟨a, b, rfl, _⟩ := h
    rfl
  · obtain ⟨a0, b0, rfl, h1, h2, k⟩ := h
    refine ⟨_, (pss_cons (ps_while PassesOwn.never (pt_cmpR op_ne (pv 1) pe_int (nomark _)) (pss_one (ps_par (i := 0) (j := 1) rfl sc_greatest_common_divisor.nd rfl rfl (by decide) rfl rfl (pa_cons (pv 1) (pa_cons (pe_op op_mod (pv 0) (pv 1)) pa_nil)) (by rfl)))) (pss_one (ps_ret (pe_callB call_abs (by rfl) T.z_abs (by decide +kernel) (pa_cons (pv 0) pa_nil))))), ?_⟩
    refine ⟨fun m σ H2 => ∃ a b : Int, σ = [some (.int a), some (.int b)] ∧ H2 = H ∧ 0 ≤ a ∧ 0 ≤ b ∧ Int.gcd a b = Int.gcd a0 b0 ∧ m = b.toNat, ⟨_, a0, b0, rfl, rfl, h1, h2, rfl, rfl⟩, ?_⟩
    rintro m σ _ ⟨a, b, rfl, rfl, ha, hb, hg, rfl⟩
    refine ⟨_, rfl, rfl, _, rfl, ?_⟩
    by_cases hz : b = 0
    · subst hz
      refine itf (by simp) ⟨_, rfl, a, rfl, ?_⟩
      rw [if_neg (by omega)]
      have e : (Int.gcd a 0 : Nat) = a.natAbs := by simp
      have e2 : gcdI a0 b0 = a := by
        show ((Int.gcd a0 b0 : Nat) : Int) = a
        rw [← hg, e]
        omega
      rw [e2] at k
      exact k
    · refine itt (by rw [dec_int]; simp [hz]) ⟨_, fun _ _ h => h, ?_⟩
      have q1 := Int.emod_lt_of_pos a (show 0 < b by omega)
      have q2 := Int.emod_nonneg a hz
      exact ⟨_, rfl, _, rfl, _, rfl, _, _, rfl, rfl, (by show 0 < b; omega), _, _, rfl, _, (by show (a % b).toNat < b.toNat; omega), _, _, rfl, rfl, hb, q2, by rw [gcd_turn hz, hg], rfl⟩
end

/-! ### the order of a seat -/
def perN (p n : Int) : Nat := n.natAbs / Int.gcd p n
def ordF (zs : List (Int × Int)) : Nat := zs.foldl (fun l z => Nat.lcm l (perN z.1 z.2)) 1
theorem per_int {p n : Int} (h : 1 ≤ n) : n / gcdI p n = (perN p n : Int) := by
  have e : (n.natAbs : Int) = n := Int.natAbs_of_nonneg (by omega)
  unfold perN
  rw [Int.natCast_ediv, e]
theorem per_pos {p n : Int} (h : 1 ≤ n) : 0 < perN p n := by
  unfold perN
  refine Nat.div_pos ?_ (gcd_pos2 h)
  have := Int.gcd_dvd_right p n
  have h2 : (Int.gcd p n : Int) ≤ n := Int.le_of_dvd (by omega) this
  omega
theorem per_le {p n : Int} : perN p n ≤ n.natAbs := Nat.div_le_self _ _
theorem lcm_int {l m : Nat} : (l : Int) / gcdI l m * m = ((Nat.lcm l m : Nat) : Int) := by
  show (l : Int) / ((Nat.gcd l m : Nat) : Int) * m = _
  rw [← Int.natCast_ediv, ← Int.natCast_mul, Nat.lcm, Nat.div_mul_right_comm (Nat.gcd_dvd_left l m)]
theorem ord_snoc (zs : List (Int × Int)) (z : Int × Int) : ordF (zs ++ [z]) = Nat.lcm (ordF zs) (perN z.1 z.2) := by
  unfold ordF
  rw [List.foldl_append]
  rfl
theorem lcm_fold : ∀ {zs : List (Int × Int)} {a B : Nat}, 0 < a → (∀ z ∈ zs, 1 ≤ z.2 ∧ z.2.natAbs ≤ B) → 0 < zs.foldl (fun l z => Nat.lcm l (perN z.1 z.2)) a ∧ zs.foldl (fun l z => Nat.lcm l (perN z.1 z.2)) a ≤ a * B ^ zs.length
  | [], a, B, h, _ => by simp; exact h
  | z :: zs, a, B, h, hz => by
    have h1 := hz z List.mem_cons_self
    have h2 : 0 < Nat.lcm a (perN z.1 z.2) := Nat.lcm_pos h (per_pos h1.1)
    obtain ⟨g1, g2⟩ := lcm_fold (zs := zs) (B := B) h2 fun y hy => hz y (List.mem_cons_of_mem _ hy)
    refine ⟨g1, Nat.le_trans g2 ?_⟩
    have h3 : Nat.lcm a (perN z.1 z.2) ≤ a * B := Nat.le_trans (Nat.div_le_self _ _) (Nat.mul_le_mul_left _ (Nat.le_trans per_le h1.2))
    calc _ ≤ a * B * B ^ zs.length := Nat.mul_le_mul_right _ h3
      _ = a * B ^ (zs.length + 1) := by rw [Nat.pow_succ, Nat.mul_assoc, Nat.mul_comm B]
theorem ord_ok {zs : List (Int × Int)} (h : ∀ z ∈ zs, 1 ≤ z.2 ∧ z.2 ≤ 10 ^ 45) (hl : zs.length ≤ 4) : 0 < ordF zs ∧ ordF zs < 2 ^ 600 := by
  obtain ⟨g1, g2⟩ := lcm_fold (zs := zs) (a := 1) (B := 10 ^ 45) (by decide) fun z hz => ⟨(h z hz).1, by
    have := h z hz
    have e : ((10 ^ 45 : Nat) : Int) = (10 : Int) ^ 45 := by simp
    omega⟩
  refine ⟨g1, Nat.lt_of_le_of_lt g2 ?_⟩
  rw [Nat.one_mul]
  exact Nat.lt_of_le_of_lt (Nat.pow_le_pow_right (by decide) hl) (by decide +kernel)
theorem zip_at {α β : Type} {l : List α} {m : List β} {i : Nat} {x : α} {y : β} (h1 : l[i]? = some x) (h2 : m[i]? = some y) : (l.zip m)[i]? = some (x, y) := by
  rw [List.getElem?_zip_eq_some]
  exact ⟨h1, h2⟩
theorem zip_len {α β : Type} {l : List α} {m : List β} {n : Nat} (h1 : l.length = n) (h2 : m.length = n) : (l.zip m).length = n := by
  rw [List.length_zip, h1, h2, Nat.min_self]
theorem zip_take_len {α β : Type} {l : List α} {m : List β} {n : Nat} (h1 : l.length = n) (h2 : m.length = n) : (l.zip m).take n = l.zip m := List.take_of_length_le (by rw [zip_len h1 h2]; exact Nat.le_refl _)
/-- sizes that are not too long -/
abbrev SzB (ns : List Int) : Prop := ∀ n ∈ ns, n ≤ 10 ^ 45
theorem SeatOk.at : ∀ {ns ps : List Int} {i : Nat} {n p : Int}, SeatOk ns ps → ns[i]? = some n → ps[i]? = some p → 0 ≤ p ∧ p < n
  | [], [], _, _, _, _, h, _ => by simp at h
  | n :: ns, p :: ps, 0, _, _, h, h1, h2 => by
    simp at h1 h2
    subst h1 h2
    exact h.1
  | n :: ns, p :: ps, i + 1, _, _, h, h1, h2 => by
    rw [List.getElem?_cons_succ] at h1 h2
    exact SeatOk.at h.2 h1 h2
theorem zip_bound {ns ps : List Int} (ok : SzOk ns) (hB : SzB ns) (i : Nat) : ∀ z ∈ (ps.zip ns).take i, 1 ≤ z.2 ∧ z.2 ≤ 10 ^ 45 := fun z hz => by
  have := (List.of_mem_zip (show (z.1, z.2) ∈ ps.zip ns from List.mem_of_mem_take hz)).2
  exact ⟨ok.one _ this, hB _ this⟩
theorem abs_succ {n : Int} (h : n.natAbs < 2 ^ 150) : (n + 1).natAbs < 2 ^ 151 := by
  have : (2 : Nat) ^ 151 = 2 * 2 ^ 150 := by decide +kernel
  omega
/-- the halves of a place -/
def halfL (p n : Int) : List Int := if n % 2 = 1 then [p * (n + 1) / 2 % n] else if p % 2 = 0 then [p / 2, (p + n) / 2] else []
theorem halfL_def (p n : Int) : halfL p n = if n % 2 = 1 then [p * (n + 1) / 2 % n] else if p % 2 = 0 then [p / 2, (p + n) / 2] else [] := rfl
/-- .. of a seat -/
def crossL (hss : List (List Int)) (ks : List Int) : List (List Int) := hss.flatMap fun hs => ks.map fun k => hs ++ [k]
def halvesF (zs : List (Int × Int)) : List (List Int) := zs.foldl (fun hss z => crossL hss (halfL z.1 z.2)) [[]]
theorem halves_snoc (zs : List (Int × Int)) (z : Int × Int) : halvesF (zs ++ [z]) = crossL (halvesF zs) (halfL z.1 z.2) := by
  unfold halvesF
  rw [List.foldl_append]
  rfl
theorem cross_snoc (hss : List (List Int)) (hs ks : List Int) : crossL (hss ++ [hs]) ks = crossL hss ks ++ ks.map fun k => hs ++ [k] := by
  unfold crossL
  rw [List.flatMap_append]
  simp
theorem cross_len (ks : List Int) : ∀ hss : List (List Int), (crossL hss ks).length = hss.length * ks.length
  | [] => by simp [crossL]
  | h :: hss => by
    have ih := cross_len ks hss
    unfold crossL at ih ⊢
    rw [List.flatMap_cons, List.length_append, ih, List.length_map, List.length_cons, Nat.succ_mul, Nat.add_comm]
theorem half_len (p n : Int) : (halfL p n).length ≤ 2 := by
  unfold halfL
  split
  · simp
  · split <;> simp
theorem halves_len : ∀ (zs : List (Int × Int)) (hss : List (List Int)), (zs.foldl (fun hss z => crossL hss (halfL z.1 z.2)) hss).length ≤ hss.length * 2 ^ zs.length
  | [], hss => by simp
  | z :: zs, hss => by
    refine Nat.le_trans (halves_len zs _) ?_
    rw [cross_len, List.length_cons, Nat.pow_succ, Nat.mul_comm (2 ^ zs.length), ← Nat.mul_assoc]
    exact Nat.mul_le_mul_right _ (Nat.mul_le_mul_left _ (half_len _ _))
theorem halves_few {zs : List (Int × Int)} (h : zs.length ≤ 4) : (halvesF zs).length ≤ 16 := by
  have := halves_len zs [[]]
  refine Nat.le_trans this ?_
  rw [List.length_singleton, Nat.one_mul]
  exact Nat.pow_le_pow_right (by decide) h
theorem halves_rows : ∀ (zs : List (Int × Int)) (hss : List (List Int)) (m : Nat), (∀ hs ∈ hss, hs.length = m) → ∀ hs ∈ zs.foldl (fun hss z => crossL hss (halfL z.1 z.2)) hss, hs.length = m + zs.length
  | [], hss, m, h => h
  | z :: zs, hss, m, h => fun hs hh => by
    have := halves_rows zs (crossL hss (halfL z.1 z.2)) (m + 1) (fun ks hk => ?_) hs hh
    · rw [this, List.length_cons]
      omega
    · obtain ⟨us, hu, hk⟩ := List.mem_flatMap.mp hk
      obtain ⟨k, _, rfl⟩ := List.mem_map.mp hk
      rw [List.length_append, h us hu]
      rfl
section
variable {P : Program} {w : World} {K : PySem.W.Frag} {mg : Str → Option Value} {base : Heap}
def sp_Table_order (C : Addr) : Sp := fun vs H Q _ => ∃ (a s : Addr) (ns ps : List Int), vs = [.ref a, .ref s] ∧ TabAt C H a ns ∧ SzOk ns ∧ SzB ns ∧ H s = some (.tup (ps.map V.int)) ∧ SeatOk ns ps ∧ ∀ H2, Ex H H2 → Q (.int (ordF (ps.zip ns))) H2
theorem ok_Table_order (T : TX K mg) : FnOk P w K mg base CX0 5 T.f_Table_order T.fd_Table_order ["self", "seat"] (sp_Table_order T.C_Table) := by
  refine T.F_Table_order.ok sc_Table_order (fun vs H Q E h => ?_) (fun cdv A outer s H vs Q E hr h => ?_)
  · obtain ⟨a, s, ns, ps, rfl, _⟩ := h
    rfl
  · obtain ⟨a, s, ns, ps, rfl, tab, ok, hB, hs, sk, k⟩ := h
    have l4 := ok.le
    have lp := sk.len
    refine ⟨_, (pss_cons (ps_expr (pe_call (ok_require_seat T) hr rfl T.m_require_seat T.F_require_seat.kp T.b_require_seat .nil pass0 (pa_cons (pv 0) (pa_cons (pv 1) pa_nil)))) (pss_cons (ps_set (i := 2) sc_Table_order.nd rfl (Or.inl rfl) pe_int) (pss_cons (ps_for PassesOwn.never rfl (CZ.pi_z2s (fl := [true, true]) rfl (by rfl) T.z_zip (pa_cons (pv 1) (pa_cons (pe_fld (pv 0) rfl) pa_nil))) (pg_tup rfl (pgs_cons (pg_name (i := 3) sc_Table_order.nd rfl (Or.inl rfl)) (pgs_cons (pg_name (i := 4) sc_Table_order.nd rfl (Or.inl rfl)) pgs_nil))) (pss_cons (ps_set (i := 5) sc_Table_order.nd rfl (Or.inl rfl) (pe_op op_fdivW (pv 4) (pe_call (ok_greatest_common_divisor T) (hr.mono (by decide)) rfl T.m_greatest_common_divisor T.F_greatest_common_divisor.kp T.b_greatest_common_divisor .nil pass0 (pa_cons (pv 3) (pa_cons (pv 4) pa_nil))))) (pss_one (ps_set (i := 2) sc_Table_order.nd rfl (Or.inl rfl) (pe_op op_mulI (pe_op op_fdivW (pv 2) (pe_call (ok_greatest_common_divisor T) (hr.mono (by decide)) rfl T.m_greatest_common_divisor T.F_greatest_common_divisor.kp T.b_greatest_common_divisor .nil pass0 (pa_cons (pv 2) (pa_cons (pv 5) pa_nil)))) (pv 5)))))) (pss_one (ps_ret (pv 2)))))), ?_⟩
    refine ⟨_, rfl, _, rfl, a, _, ns, _, rfl, tab, l4, TupA.ints hs (by omega), isSeat_ok sk, fun H1 e1 => ?_⟩
    obtain ⟨dx, t, h1, h2⟩ := tab.mono e1
    have hs1 := e1 _ _ hs
    refine ⟨_, rfl, _, rfl, a, _, dx, _, _, rfl, h1, T.cl_Table, T.n_Table_rings, rfl, [s, t], rfl, rfl, all2 (sqT hs1) (sqT h2), ?_⟩
    refine for_it (CZ.walk_rows (xss := [ps.map V.int, ns.map V.int]) (n := ns.length) (lens2 (by rw [List.length_map, lp]) (by rw [List.length_map]))) (fun i σ H2 => ∃ y1 y2 y3 : Option V, σ = [some (.ref a), some (.ref s), some (.int (ordF ((ps.zip ns).take i))), y1, y2, y3] ∧ Ex H1 H2) ⟨_, _, _, rfl, exr⟩ (fun i σ H2 _ ⟨_, _, _, _, e⟩ => .cons (sqT (e _ _ hs1)) (.cons (sqT (e _ _ h2)) .nil)) ?_ ?_
    · rintro i x σ H2 H3 hi ⟨y1, y2, y3, rfl, e2⟩ yy
      obtain ⟨Ta, p, n, rfl, hT, rfl, hp, hn⟩ := yints2 yy
      have n1 := ok.one n (List.mem_of_getElem? hn)
      have n2 := hB n (List.mem_of_getElem? hn)
      obtain ⟨p0, p1⟩ := sk.at hn hp
      have lt : ((ps.zip ns).take i).length ≤ 4 := by
        rw [List.length_take, zip_len lp rfl]
        omega
      obtain ⟨o1, o2⟩ := ord_ok (zip_bound ok hB i) lt
      have ezs := take_more (zip_at hp hn)
      refine ⟨Ta, _, rfl, SqT.of upd_same, rfl, _, _, rfl, _, _, rfl, rfl, ?_⟩
      have g0 : (0 : Int) < gcdI p n := by
        have := gcd_pos2 (p := p) n1
        show (0 : Int) < ((Int.gcd p n : Nat) : Int)
        omega
      have gle : gcdI p n ≤ n := Int.le_of_dvd (by omega) (Int.gcd_dvd_right p n)
      refine ⟨_, rfl, _, rfl, _, rfl, p, n, rfl, p0, (by omega), _, _, rfl, rfl, wide_div g0 (abs45 (by omega) (by omega)) (by decide) (by decide), ?_⟩
      have q0 := per_pos (p := p) n1
      have q1 := per_le (p := p) (n := n)
      have q2 : perN p n < 2 ^ 150 := Nat.lt_of_le_of_lt q1 (abs45 (by omega) n2)
      dsimp only
      rw [per_int n1]
      have r0 : 0 < Nat.gcd (ordF ((ps.zip ns).take i)) (perN p n) := Nat.gcd_pos_of_pos_left _ o1
      have r1 : Nat.gcd (ordF ((ps.zip ns).take i)) (perN p n) ≤ perN p n := Nat.gcd_le_right _ q0
      refine ⟨_, rfl, _, rfl, _, rfl, _, _, rfl, Int.natCast_nonneg _, Int.natCast_nonneg _, _, _, rfl, rfl, wide_div (b := 150) ?_ ?_ (by decide) (by decide), _, rfl, _, _, rfl, rfl, (wide_mul (a := 600) (b := 150) ?_ ?_ (by decide) (by decide) (by decide)).ok, ?_⟩
      · show (0 : Int) < ((Nat.gcd (ordF ((ps.zip ns).take i)) (perN p n) : Nat) : Int)
        omega
      · show ((Nat.gcd (ordF ((ps.zip ns).take i)) (perN p n) : Nat) : Int).natAbs < 2 ^ 150
        rw [Int.natAbs_natCast]
        exact Nat.lt_of_le_of_lt r1 q2
      · show ((ordF ((ps.zip ns).take i) : Int) / ((Nat.gcd (ordF ((ps.zip ns).take i)) (perN p n) : Nat) : Int)).natAbs < 2 ^ 600
        rw [← Int.natCast_ediv, Int.natAbs_natCast]
        exact Nat.lt_of_le_of_lt (Nat.div_le_self _ _) o2
      · rw [Int.natAbs_natCast]
        exact q2
      · dsimp only
        rw [lcm_int]
        rw [ezs, ord_snoc]
        exact ⟨_, _, _, rfl, fun c o z => exn hT _ _ (e2 c o z)⟩
    · rintro σ H2 ⟨y1, y2, y3, rfl, e2⟩
      rw [zip_take_len lp rfl]
      exact ⟨_, rfl, k _ fun c o z => e2 c o (e1 c o z)⟩
def sp_half_places : Sp := fun vs H Q _ => ∃ p n : Int, vs = [.int p, .int n] ∧ 0 ≤ p ∧ p < n ∧ n ≤ 10 ^ 45 ∧ ∀ q H2, Ex H H2 → H q = none → H2 q = some (.lst ((halfL p n).map V.int)) → Q (.ref q) H2
theorem ok_half_places (T : TX K mg) : FnOk P w K mg base CX0 1 T.f_half_places T.fd_half_places ["place", "size"] sp_half_places := by
  refine T.F_half_places.ok sc_half_places (fun vs H Q E h => ?_) (fun cdv A outer s H vs Q E hr h => ?_)
  · obtain ⟨p, n, rfl, _⟩ := h
    rfl
  · obtain ⟨p, n, rfl, p0, p1, n2, k⟩ := h
    refine ⟨_, (pss_cons (ps_if (pt_cmpR op_eq (pe_op op_mod (pv 1) pe_int) pe_int (nomark _)) (pss_one (ps_ret (pe_lst (pa_cons (pe_op op_mod (pe_op op_fdivW (pe_op op_mulI (pv 0) (pe_op op_add (pv 1) pe_int)) pe_int) (pv 1)) pa_nil)))) pss_nil) (pss_one (ps_ret (pe_ifExp (pt_cmpR op_eq (pe_op op_mod (pv 0) pe_int) pe_int (nomark _)) (pe_lst (pa_cons (pe_op op_fdivW (pv 0) pe_int) (pa_cons (pe_op op_fdivW (pe_op op_add (pv 0) (pv 1)) pe_int) pa_nil))) (pe_lst pa_nil))))), ?_⟩
    refine ⟨_, rfl, _, _, rfl, rfl, (by show (0 : Int) < 2; decide), rfl, _, rfl, ?_⟩
    rw [dec_int]
    have e := halfL_def p n
    by_cases h : n % 2 = 1
    · rw [if_pos h] at e
      refine itt (by simp [h]) ?_
      refine ⟨_, rfl, _, rfl, _, _, rfl, rfl, _, _, rfl, rfl, (wide_mul (abs45 p0 (by omega)) (abs45 (n := n) (by omega) n2 |> abs_succ) (by decide) (by decide) (by decide)).ok, _, _, rfl, rfl, ⟨by decide, by decide +kernel⟩, _, rfl, _, _, rfl, rfl, (by show (0 : Int) < n; omega), (by show 1 ≤ sizeLine; decide), fun q hq => ?_⟩
      exact k q _ (exn hq) hq (by rw [upd_same, e]; rfl)
    · rw [if_neg h] at e
      refine itf (by simp [h]) ?_
      refine ⟨_, rfl, _, _, rfl, rfl, (by show (0 : Int) < 2; decide), rfl, _, rfl, ?_⟩
      rw [dec_int]
      by_cases h2 : p % 2 = 0
      · rw [if_pos h2] at e
        refine itt (by simp [h2]) ?_
        refine ⟨_, rfl, _, _, rfl, rfl, ⟨by decide, by decide +kernel⟩, _, rfl, _, rfl, _, _, rfl, rfl, _, _, rfl, rfl, ⟨by decide, by decide +kernel⟩, (by show 2 ≤ sizeLine; decide), fun q hq => ?_⟩
        exact k q _ (exn hq) hq (by rw [upd_same, e]; rfl)
      · rw [if_neg h2] at e
        refine itf (by simp [h2]) ?_
        refine ⟨(by show 0 ≤ sizeLine; decide), fun q hq => ?_⟩
        exact k q _ (exn hq) hq (by rw [upd_same, e]; rfl)
def sp_Table_halves (C : Addr) : Sp := fun vs H Q _ => ∃ (a s : Addr) (ns ps : List Int), vs = [.ref a, .ref s] ∧ TabAt C H a ns ∧ SzOk ns ∧ SzB ns ∧ H s = some (.tup (ps.map V.int)) ∧ SeatOk ns ps ∧ ∀ q H2, Ex H H2 → H q = none → RowsAt H2 q (halvesF (ps.zip ns)) → Q (.ref q) H2
theorem ok_Table_halves (T : TX K mg) : FnOk P w K mg base CX0 5 T.f_Table_halves T.fd_Table_halves ["self", "seat"] (sp_Table_halves T.C_Table) := by
  refine T.F_Table_halves.ok sc_Table_halves (fun vs H Q E h => ?_) (fun cdv A outer s H vs Q E hr h => ?_)
  · obtain ⟨a, s, ns, ps, rfl, _⟩ := h
    rfl
  · obtain ⟨a, s, ns, ps, rfl, tab, ok, hB, hs, sk, k⟩ := h
    have l4 := ok.le
    have lp := sk.len
    refine ⟨_, (pss_cons (ps_expr (pe_call (ok_require_seat T) hr rfl T.m_require_seat T.F_require_seat.kp T.b_require_seat .nil pass0 (pa_cons (pv 0) (pa_cons (pv 1) pa_nil)))) (pss_cons (ps_set (i := 2) sc_Table_halves.nd rfl (Or.inl rfl) (pe_lst (pa_cons (pe_tup pa_nil) pa_nil))) (pss_cons (ps_for PassesOwn.never rfl (CZ.pi_z2s (fl := [true, true]) rfl (by rfl) T.z_zip (pa_cons (pv 1) (pa_cons (pe_fld (pv 0) rfl) pa_nil))) (pg_tup rfl (pgs_cons (pg_name (i := 3) sc_Table_halves.nd rfl (Or.inr rfl)) (pgs_cons (pg_name (i := 4) sc_Table_halves.nd rfl (Or.inr rfl)) pgs_nil))) (pss_one (ps_setLc2 (wi1 := iList K _) (own := [("start", 5), ("half", 6)]) (g := (gName 5)) (g1 := (gName 6)) (vs1 := [6]) (i := 2) rfl sc_Table_halves.nd rfl rfl (sw_true rfl rfl rfl (by decide +kernel)) (pi_list (pv 2)) (blkOk_by (N := N_Table_halves) (sc := defScope s_Table_halves) (by decide +kernel)) (by decide) (fun _ _ _ _ _ => (pg_name (i := 5) sc_Table_halves.nd rfl (Or.inl rfl))) (fun _ _ _ _ _ => pts_nil) (fun _ _ _ _ _ => (pi_list (pe_call (ok_half_places T) (hr.mono (by decide)) rfl T.m_half_places T.F_half_places.kp T.b_half_places .nil pass0 (pa_cons (pv 3) (pa_cons (pv 4) pa_nil))))) (fun _ _ _ _ _ => (pg_name (i := 6) sc_Table_halves.nd rfl (Or.inl rfl))) (fun _ _ _ _ _ => pts_nil) (fun _ _ _ _ _ => (pe_op (r := rCatA K) op_catA (pv 5) (pe_tup (pa_cons (pv 6) pa_nil))))))) (pss_one (ps_ret (pv 2)))))), ?_⟩
    refine ⟨_, rfl, _, rfl, a, _, ns, _, rfl, tab, l4, TupA.ints hs (by omega), isSeat_ok sk, fun H1 e1 => ?_⟩
    obtain ⟨dx, t, h1, h2⟩ := tab.mono e1
    have hs1 := e1 _ _ hs
    refine ⟨by show 0 ≤ sizeLine; decide, fun u hu => ⟨by show 1 ≤ sizeLine; decide, fun f hf => ?_⟩⟩
    have e2 : Ex H1 (upd (upd H1 u (.tup [])) f (.lst [.ref u])) := ext (exn hu) (exn hf)
    have f0 : H f = none := Evl.fresh_back e1 (Evl.fresh_back (exn hu) hf)
    refine ⟨_, rfl, _, rfl, a, _, dx, _, _, rfl, e2 _ _ h1, T.cl_Table, T.n_Table_rings, rfl, [s, t], rfl, rfl, all2 (sqT (e2 _ _ hs1)) (sqT (e2 _ _ h2)), ?_⟩
    refine for_it (CZ.walk_rows (xss := [ps.map V.int, ns.map V.int]) (n := ns.length) (lens2 (by rw [List.length_map, lp]) (by rw [List.length_map]))) (fun i σ H2 => ∃ (f : Addr) (y1 y2 y3 y4 : Option V), σ = [some (.ref a), some (.ref s), some (.ref f), y1, y2, y3, y4] ∧ Ex H1 H2 ∧ H f = none ∧ RowsAt H2 f (halvesF ((ps.zip ns).take i))) ⟨_, _, _, _, _, rfl, e2, f0, _, upd_same, .cons ⟨u, rfl, by rw [upd_ne (ne_of_none upd_same hf)]; exact upd_same⟩ .nil⟩ (fun i σ H2 _ ⟨_, _, _, _, _, _, e, _⟩ => .cons (sqT (e _ _ hs1)) (.cons (sqT (e _ _ h2)) .nil)) ?_ ?_
    · rintro i x σ H2 H3 hi ⟨f, y1, y2, y3, y4, rfl, e3, f0, ra⟩ yy
      obtain ⟨Ta, p, n, rfl, hT, rfl, hp, hn⟩ := yints2 yy
      have n1 := ok.one n (List.mem_of_getElem? hn)
      have n2 := hB n (List.mem_of_getElem? hn)
      obtain ⟨p0, p1⟩ := sk.at hn hp
      have lt : ((ps.zip ns).take i).length ≤ 4 := by
        rw [List.length_take, zip_len lp rfl]
        omega
      have few := halves_few lt
      have ezs := take_more (zip_at hp hn)
      refine ⟨Ta, _, rfl, SqT.of upd_same, rfl, _, _, rfl, _, _, rfl, rfl, ?_⟩
      have e4 : Ex H1 (upd H2 Ta (.tup [.int p, .int n])) := ext e3 (exn hT)
      have ra4 := ra.mono (exn (o := .tup [.int p, .int n]) hT)
      generalize upd H2 Ta (.tup [.int p, .int n]) = H4 at e4 ra4
      obtain ⟨xs, ra5, rr⟩ := ra4
      generalize hh : halvesF ((ps.zip ns).take i) = hss at rr few
      have hk := half_len p n
      refine ⟨_, rfl, f, rfl, ⟨_, SqL.of ra5⟩, fun D hD => ?_⟩
      refine lc2_it (walk_list (xs := xs)) (fun j H => Ex H4 H ∧ RowsAt H D (crossL (hss.take j) (halfL p n))) ⟨exn hD, _, upd_same, .nil⟩ (fun j H _ q => SqL.of (q.1 _ _ ra5)) ?_ ?_
      · rintro j x _ H5 hj ⟨e5, rb⟩ ⟨rfl, hx⟩
        obtain ⟨hs, r, hhs, rfl, hr4⟩ := rr.get hx
        refine ⟨rfl, ?_⟩
        refine ⟨_, rfl, _, rfl, p, n, rfl, p0, p1, n2, fun q H6 e6 hq hq6 => ⟨q, rfl, ⟨_, SqL.of hq6⟩, ?_⟩⟩
        have nqD : q ≠ D := by
          obtain ⟨xs, z, _⟩ := rb
          exact (ne_of_none z hq).symm
        refine in_it (walk_list (xs := (halfL p n).map V.int)) (fun l H => Ex H4 H ∧ H q = some (.lst ((halfL p n).map V.int)) ∧ RowsAt H D (crossL (hss.take j) (halfL p n) ++ ((halfL p n).take l).map fun k => hs ++ [k])) ⟨ext e5 e6, hq6, ?_⟩ (fun l H _ q => SqL.of q.2.1) ?_ ?_
        · rw [List.take_zero, List.map_nil, List.append_nil]
          exact rb.mono e6
        · rintro l x _ H7 hl ⟨e7, hq7, rc⟩ ⟨rfl, hx⟩
          obtain ⟨h, hh2, rfl⟩ := map_get hx
          refine ⟨rfl, ?_⟩
          refine ⟨_, rfl, _, rfl, by show 1 ≤ sizeLine; decide, fun u hu => ?_⟩
          have ll : ∀ x : Nat, x = (crossL (hss.take j) (halfL p n) ++ ((halfL p n).take l).map fun k => hs ++ [k]).length → x < sizeLine := fun x e => by
            rw [e, List.length_append, cross_len, List.length_map, List.length_take, List.length_take]
            have : min j hss.length * (halfL p n).length ≤ 16 * 2 := Nat.mul_le_mul (Nat.le_trans (Nat.min_le_right _ _) few) hk
            exact Nat.lt_of_le_of_lt (show _ ≤ 34 by omega) (by decide)
          have next : ∀ H8 v, Ex H7 H8 → H8 v = some (.tup ((hs ++ [h]).map V.int)) → ∃ acc, H8 D = some (.lst acc) ∧ acc.length < sizeLine ∧ Ex H4 (upd H8 D (.lst (acc ++ [.ref v]))) ∧ upd H8 D (.lst (acc ++ [.ref v])) q = some (.lst ((halfL p n).map V.int)) ∧ RowsAt (upd H8 D (.lst (acc ++ [.ref v]))) D (crossL (hss.take j) (halfL p n) ++ ((halfL p n).take (l + 1)).map fun k => hs ++ [k]) := fun H8 v e8 hv => by
            obtain ⟨acc, g1, g2, g3⟩ := rows_push (rc.mono e8) hv
            refine ⟨acc, g1, ll _ g2, ex_upd (ext e7 e8) hD, by rw [upd_ne nqD]; exact e8 _ _ hq7, ?_⟩
            rw [take_more hh2, List.map_append, ← List.append_assoc]
            exact g3
          refine ⟨r, u, hs.map V.int, [.int h], rfl, rfl, SqT.of (exn hu _ _ (e7 _ _ hr4)), SqT.of upd_same, ?_, fun z => ?_, fun _ z => (nomatch z), fun _ _ v hv => ?_⟩
          · have hr2 := halves_rows ((ps.zip ns).take i) [[]] 0 (fun hs z => by rw [List.mem_singleton.mp z]; rfl) hs (by have := List.mem_of_getElem? hhs; rw [← hh] at this; exact this)
            rw [List.length_map, hr2]
            exact Nat.le_trans (show 0 + _ + 1 ≤ 5 by omega) (by decide)
          · have : hs = [] := List.map_eq_nil_iff.mp z
            subst this
            exact next _ u (exn hu) upd_same
          · refine next _ v (ext (exn hu) (exn hv)) ?_
            rw [upd_same, List.map_append]
            rfl
        · rintro H7 ⟨e7, hq7, rc⟩
          refine ⟨e7, ?_⟩
          rw [List.length_map, List.take_length, ← cross_snoc, ← take_more hhs] at rc
          exact rc
      · rintro H5 ⟨e5, rb⟩
        rw [ezs, halves_snoc, hh]
        rw [rr.len, List.take_length] at rb
        exact ⟨D, _, _, _, _, rfl, ext e4 e5, Evl.fresh_back e1 (Evl.fresh_back e4 hD), rb⟩
    · rintro σ H2 ⟨f, y1, y2, y3, y4, rfl, e2, f0, ra⟩
      rw [zip_take_len lp rfl] at ra
      exact ⟨_, rfl, k f _ (ext e1 e2) f0 ra⟩
end

/-- a source of draws stands at s -/
def Src (H : Hp) (s : Addr) : Prop := ∃ a b c : Int, H s = some (.lst [.int a, .int b, .int c])
theorem Src.mono {s : Addr} {H H2 : Hp} (e : Ex H H2) (h : Src H s) : Src H2 s := by
  obtain ⟨a, b, c, h⟩ := h
  exact ⟨a, b, c, e _ _ h⟩
theorem Src.ne {s p : Addr} {H : Hp} (h : Src H s) (hp : H p = none) : p ≠ s := by
  obtain ⟨a, b, c, h⟩ := h
  exact (ne_of_none h hp).symm
theorem Src.new {s p : Addr} {H : Hp} {o : HO} (h : Src H s) (hp : H p = none) : Src (upd H p o) s := Src.mono (exn hp) h
section
variable {P : Program} {w : World} {K : PySem.W.Frag} {mg : Str → Option Value} {base : Heap}
def sp_law_mixed : Sp := fun vs H Q _ => ∃ c d : Int, vs = [.int c, .int d] ∧ ∀ r : Int, 0 ≤ r → r < 2147483563 → Q (.int r) H
theorem ok_law_mixed (T : TX K mg) : FnOk P w K mg base CX0 1 T.f_law_mixed T.fd_law_mixed ["_law_cell", "_law_draw"] sp_law_mixed := by
  refine T.F_law_mixed.ok sc_law_mixed (fun vs H Q E h => ?_) (fun cdv A outer s H vs Q E hr h => ?_)
  · obtain ⟨c, d, rfl, _⟩ := h
    rfl
  · obtain ⟨c, d, rfl, k⟩ := h
    refine ⟨_, (pss_cons (ps_set (i := 2) sc_law_mixed.nd rfl (Or.inl rfl) (pe_op op_mod (pe_op op_mulI (pe_op op_add (pe_op op_mod (pv 0) pe_int) pe_int) (pe_op op_add (pe_op op_mulI (pv 1) pe_int) pe_int)) pe_int)) (pss_cons (ps_set (i := 2) sc_law_mixed.nd rfl (Or.inl rfl) (pe_op op_mod (pe_op op_mulI (pe_op op_add (pv 2) (pe_op op_mulI (pe_op op_mod (pe_op op_fdivW (pv 0) pe_int) pe_int) (pe_op op_add (pv 1) pe_int))) pe_int) pe_int)) (pss_cons (ps_set (i := 2) sc_law_mixed.nd rfl (Or.inl rfl) (pe_op op_mod (pe_op op_mulI (pv 2) (pe_op op_add (pe_op op_add (pe_op op_fdivW (pv 2) pe_int) pe_int) (pv 1))) pe_int)) (pss_one (ps_ret (pe_op op_mod (pe_op op_mulI (pv 2) (pe_op op_add (pe_op op_fdivW (pv 2) pe_int) pe_int)) pe_int)))))), ?_⟩
    have a1 := mod_lo (i := c) (n := 2147483646) (by decide)
    have a2 := mod_hi (i := c) (n := 2147483646) (by decide)
    refine ⟨_, rfl, _, _, rfl, rfl, (by show (0 : Int) < _; decide), _, _, rfl, rfl, _, rfl, _, _, rfl, rfl, mul_ok (.inr (by decide)), _, _, rfl, rfl, _, _, rfl, rfl, mul_ok (.inl (by omega)), _, _, rfl, rfl, (by show (0 : Int) < _; decide), ?_⟩
    generalize (c % 2147483646 + 1) * (d * 7919 + 104729) % 2147483647 = n1
    have b1 := mod_lo (i := c / 2147483646) (n := 1000003) (by decide)
    have b2 := mod_hi (i := c / 2147483646) (n := 1000003) (by decide)
    refine ⟨_, rfl, _, rfl, _, _, rfl, rfl, ⟨by decide, by decide +kernel⟩, _, _, rfl, rfl, (by show (0 : Int) < _; decide), _, rfl, _, _, rfl, rfl, _, _, rfl, rfl, mul_ok (.inl (by omega)), _, _, rfl, rfl, _, _, rfl, rfl, mul_ok (.inr (by decide)), _, _, rfl, rfl, (by show (0 : Int) < _; decide), ?_⟩
    have c1 := mod_lo (i := (n1 + c / 2147483646 % 1000003 * (d + 31)) * 48271) (n := 2147483629) (by decide)
    have c2 := mod_hi (i := (n1 + c / 2147483646 % 1000003 * (d + 31)) * 48271) (n := 2147483629) (by decide)
    generalize (n1 + c / 2147483646 % 1000003 * (d + 31)) * 48271 % 2147483629 = n2 at c1 c2
    refine ⟨_, rfl, _, rfl, _, _, rfl, rfl, ⟨by decide, by decide +kernel⟩, _, _, rfl, rfl, _, rfl, _, _, rfl, rfl, _, _, rfl, rfl, mul_ok (.inl (by omega)), _, _, rfl, rfl, (by show (0 : Int) < _; decide), ?_⟩
    have d1 := mod_lo (i := n2 * (n2 / 1013 + 69621 + d)) (n := 2147483587) (by decide)
    have d2 := mod_hi (i := n2 * (n2 / 1013 + 69621 + d)) (n := 2147483587) (by decide)
    generalize n2 * (n2 / 1013 + 69621 + d) % 2147483587 = n3 at d1 d2
    exact ⟨_, rfl, _, rfl, _, _, rfl, rfl, ⟨by decide, by decide +kernel⟩, _, _, rfl, rfl, _, _, rfl, rfl, mul_ok (.inl (by omega)), _, _, rfl, rfl, (by show (0 : Int) < _; decide), k _ (mod_lo (by decide)) (mod_hi (by decide))⟩
def sp_law_source : Sp := fun vs H Q _ => ∃ c : Int, vs = [.int c] ∧ ∀ H2 s, Ex H H2 → H s = none → Src H2 s → Q (.ref s) H2
theorem ok_law_source (T : TX K mg) : FnOk P w K mg base CX0 1 T.f_law_source T.fd_law_source ["_law_cell"] sp_law_source := by
  refine T.F_law_source.ok sc_law_source (fun vs H Q E h => ?_) (fun cdv A outer s H vs Q E hr h => ?_)
  · obtain ⟨c, rfl, _⟩ := h
    rfl
  · obtain ⟨c, rfl, k⟩ := h
    exact ⟨_, (pss_one (ps_ret (pe_lst (pa_cons (pv 0) (pa_cons (pv 0) (pa_cons pe_int pa_nil)))))), ⟨_, rfl, _, rfl, (by show 3 ≤ sizeLine; decide), fun s hs => k _ s (exn hs) hs ⟨c, c, 0, upd_same⟩⟩⟩
def sp_law_take : Sp := fun vs H Q _ => ∃ (s : Addr) (n : Int), vs = [.ref s, .int n] ∧ Src H s ∧ 0 < n ∧ n.natAbs < 2 ^ 8000 ∧ ∀ r H2, 0 ≤ r → r < n → XB s H H2 → Src H2 s → Q (.int r) H2
theorem ok_law_take (T : TX K mg) : FnOk P w K mg base CX0 2 T.f_law_take T.fd_law_take ["_law_source_here", "_law_count"] sp_law_take := by
  refine T.F_law_take.ok sc_law_take (fun vs H Q E h => ?_) (fun cdv A outer s H vs Q E hr h => ?_)
  · obtain ⟨s, n, rfl, _⟩ := h
    rfl
  · obtain ⟨s, n, rfl, ⟨a, b, c, hs⟩, h0, hb, k⟩ := h
    refine ⟨_, (pss_cons (ps_if (pt_cmpR op_ge (pe_ix ix_list (pv 0) pe_int (fun _ _ => rfl)) (pe_op op_pow pe_int pe_int) (nomark _)) (pss_cons (ps_set (i := 2) sc_law_take.nd rfl (Or.inl rfl) (pe_op op_mod (pe_ix ix_list (pv 0) pe_int (fun _ _ => rfl)) (pv 1))) (pss_cons (ps_asg (pe_op op_fdivW (pe_ix ix_list (pv 0) pe_int (fun _ _ => rfl)) (pv 1)) (pg_sub (pv 0) pe_int set_list)) (pss_one (ps_ret (pv 2))))) pss_nil) (pss_cons (ps_asg (pe_op op_add (pe_ix ix_list (pv 0) pe_int (fun _ _ => rfl)) pe_int) (pg_sub (pv 0) pe_int set_list)) (pss_one (ps_ret (pe_op op_mod (pe_call (ok_law_mixed T) hr rfl T.m_law_mixed T.F_law_mixed.kp T.b_law_mixed .nil pass0 (pa_cons (pe_ix ix_list (pv 0) pe_int (fun _ _ => rfl)) (pa_cons (pe_ix ix_list (pv 0) pe_int (fun _ _ => rfl)) pa_nil))) (pv 1)))))), ?_⟩
    refine ⟨_, rfl, s, _, _, _, rfl, rfl, SqL.of hs, rfl, _, _, rfl, rfl, ⟨by decide, by decide, by decide⟩, _, _, rfl, rfl, _, rfl, ?_⟩
    refine ite2 (fun _ => ?_) (fun _ => ?_)
    · refine ⟨_, rfl, s, _, _, _, rfl, rfl, SqL.of hs, rfl, _, rfl, _, _, rfl, rfl, h0, ?_⟩
      refine ⟨_, rfl, s, _, _, _, rfl, rfl, SqL.of hs, rfl, _, rfl, _, _, rfl, rfl, wide_div h0 hb (by decide) (by decide), _, rfl, s, _, _, 0, rfl, rfl, hs, rfl, ?_⟩
      exact ⟨_, rfl, k _ _ (mod_lo h0) (mod_hi h0) XB.upd ⟨_, _, _, upd_same⟩⟩
    · refine ⟨_, rfl, s, _, _, _, rfl, rfl, SqL.of hs, rfl, _, _, rfl, rfl, _, rfl, s, _, _, 2, rfl, rfl, hs, rfl, ?_⟩
      refine ⟨_, rfl, s, _, _, _, rfl, rfl, SqL.of upd_same, rfl, _, rfl, s, _, _, _, rfl, rfl, SqL.of upd_same, rfl, _, _, rfl, fun r _ _ => ?_⟩
      exact ⟨_, rfl, _, _, rfl, rfl, h0, k _ _ (mod_lo h0) (mod_hi h0) XB.upd ⟨_, _, _, upd_same⟩⟩
end

theorem XB.src {s : Addr} {H H2 H3 : Hp} (xb : XB s H H2) (e : Ex H2 H3) : XB s H H3 := xb.trans (XB.of e)
/-- an appended list D, new behind H, beside the source s -/
theorem XB.app {s D : Addr} {H H2 : Hp} {o : HO} (xb : XB s H H2) (hD : H D = none) : XB s H (L2.upd H2 D o) := fun c u n z => by
  rw [upd_ne (ne_of_none z hD)]
  exact xb c u n z
theorem Src.app {s D : Addr} {H : Hp} {o : HO} (h : Src H s) (n : D ≠ s) : Src (upd H D o) s := by
  obtain ⟨a, b, c, z⟩ := h
  exact ⟨a, b, c, by rw [upd_ne n.symm]; exact z⟩
theorem atI_nat {α : Type} {xs : List α} {r : Int} (r0 : 0 ≤ r) (r1 : r < xs.length) : ∃ v, atI xs r = some v ∧ v ∈ xs := by
  have h : r.toNat < xs.length := by omega
  refine ⟨xs[r.toNat], ?_, List.getElem_mem h⟩
  unfold atI ixN
  rw [if_pos r0, if_pos r1]
  show xs[r.toNat]? = _
  rw [List.getElem?_eq_getElem h]
theorem prodL_snoc (ns : List Int) (n : Int) : ns.foldl (fun p n => p * n) 1 * n = (ns ++ [n]).foldl (fun p n => p * n) 1 := by
  rw [List.foldl_append]
  rfl
theorem SeatOk.snoc : ∀ {ns ps : List Int} {n p : Int}, SeatOk ns ps → 0 ≤ p → p < n → SeatOk (ns ++ [n]) (ps ++ [p])
  | [], [], _, _, _, h0, h1 => ⟨⟨h0, h1⟩, True.intro⟩
  | _ :: _, _ :: _, _, _, h, h0, h1 => ⟨h.1, SeatOk.snoc h.2 h0 h1⟩
theorem abs30 {n : Int} (h1 : 1 ≤ n) (h2 : n ≤ 10 ^ 30) : n.natAbs < 2 ^ 100 := by
  have : (10 : Int) ^ 30 < 2 ^ 100 := by decide +kernel
  omega
theorem tup_xb {s q : Addr} {H H2 : Hp} {xs : List V} (src : Src H s) (h : H q = some (.tup xs)) (xb : XB s H H2) : H2 q = some (.tup xs) := by
  obtain ⟨a, b, c, z⟩ := src
  exact xb _ _ (ne_of h z (by intro q; cases q)) h
theorem TabAt.xb {C s a : Addr} {H H2 : Hp} {ns : List Int} (src : Src H s) (xb : XB s H H2) (h : TabAt C H a ns) : TabAt C H2 a ns := by
  obtain ⟨dx, t, h1, h2⟩ := h
  obtain ⟨x, y, c, z⟩ := src
  exact ⟨dx, t, xb _ _ (ne_of h1 z (by intro q; cases q)) h1, xb _ _ (ne_of h2 z (by intro q; cases q)) h2⟩
theorem RowsR.xb {s : Addr} {H H2 : Hp} {xs : List V} {tss : List (List Int)} (h : RowsR H xs tss) (src : Src H s) (xb : XB s H H2) : RowsR H2 xs tss := h.monoT fun _ _ z => tup_xb src z xb
theorem RowsAt.xb {s f : Addr} {H H2 : Hp} {tss : List (List Int)} (h : RowsAt H f tss) (n : f ≠ s) (src : Src H s) (xb : XB s H H2) : RowsAt H2 f tss := by
  obtain ⟨xs, h1, h2⟩ := h
  exact ⟨xs, xb _ _ n h1, h2.xb src xb⟩

/-! ### comprehensions of new tuples -/
theorem paired_mono {α : Type} {P Q : V → α → Prop} (h : ∀ v a, P v a → Q v a) : ∀ {xs : List V} {as : List α}, Paired P xs as → Paired Q xs as
  | _, _, .nil => .nil
  | _, _, .cons q t => .cons (h _ _ q) (paired_mono h t)
theorem paired_snoc {α : Type} {P : V → α → Prop} {v : V} {a : α} (h : P v a) : ∀ {xs : List V} {as : List α}, Paired P xs as → Paired P (xs ++ [v]) (as ++ [a])
  | _, _, .nil => .cons h .nil
  | _, _, .cons q t => .cons q (paired_snoc h t)
theorem lc_new {α : Type} (Pd : Hp → V → α → Prop) (mono : ∀ (H H2 : Hp) (v : V) (a : α), (∀ c xs, H c = some (.tup xs) → H2 c = some (.tup xs)) → Pd H v a → Pd H2 v a)
    {J : It} {n : Nat} {G : Hp → Prop} {Y : Nat → Hp → V → Hp → Prop} (w : Walk J n G Y) {g : TG} {te : TE} {vs : List Nat} {σ : L2.St} {H1 : Hp} {D : Addr} {Qd : Hp → Prop} (as : List α) (hn : as.length = n) (hl : n ≤ 10000000) (hD : H1 D = none)
    (hG : ∀ H, Ex H1 H → G H)
    (hs : ∀ i x a H H2 (R : VK), as[i]? = some a → Ex H1 H → Y i H x H2 → (∀ v H5, Ex H H5 → Pd H5 v a → R v H5) → g x (wipe σ vs) H2 fun σ2 H3 => wipe σ2 vs = wipe σ vs ∧ te σ2 H3 R)
    (hg : ∀ x σ2 H2 (R R2 : L2.St → Hp → Prop), (∀ σ3 H3, R σ3 H3 → R2 σ3 H3) → g x σ2 H2 R → g x σ2 H2 R2)
    (hd : ∀ H xs, Ex H1 H → H D = some (.lst xs) → Paired (Pd H) xs as → Qd H) :
    ∃ W : Nat → Nat → Hp → Prop, (∃ m, W 0 m (upd H1 D (.lst []))) ∧ ∀ i m H, W i m H →
      (J.stop i H ∧ Qd H) ∨ (J.go i H ∧ ∃ Nx : Hp → Prop, (∀ H2, Nx H2 → ∃ m2, m2 < m ∧ W (i + 1) m2 H2) ∧ ∀ x H2, J.yld i H x H2 → g x (wipe σ vs) H2 fun σ2 H3 => wipe σ2 vs = wipe σ vs ∧ tYes σ2 H3 fun b H4 =>
        if b = true then te σ2 H4 fun y H5 => ∃ acc, H5 D = some (.lst acc) ∧ acc.length < sizeLine ∧ Nx (upd H5 D (.lst (acc ++ [y]))) else Nx H4) := by
  refine lc_it w (fun i H => Ex H1 H ∧ ∃ xs, H D = some (.lst xs) ∧ Paired (Pd H) xs (as.take i)) ⟨exn hD, [], upd_same, .nil⟩ (fun i H _ p => hG H p.1) (fun i x H H2 hi p y => ?_) (fun H p => ?_)
  · obtain ⟨a, ha⟩ : ∃ a, as[i]? = some a := ⟨_, List.getElem?_eq_getElem (by omega)⟩
    refine hg _ _ _ _ _ (fun σ3 H3 q => ⟨q.1, q.2⟩) (hs i x a H H2 (fun y H5 => ∃ acc, H5 D = some (.lst acc) ∧ acc.length < sizeLine ∧ Ex H1 (upd H5 D (.lst (acc ++ [y]))) ∧ ∃ xs, upd H5 D (.lst (acc ++ [y])) D = some (.lst xs) ∧ Paired (Pd (upd H5 D (.lst (acc ++ [y])))) xs (as.take (i + 1))) ha p.1 y fun v H5 e hv => ?_)
    obtain ⟨p1, xs, p2, p3⟩ := p
    have tp : ∀ c zs, H5 c = some (.tup zs) → upd H5 D (.lst (xs ++ [v])) c = some (.tup zs) := fun c zs z => by
      rw [upd_ne (ne_of z (e _ _ p2) (by intro q; cases q))]
      exact z
    refine ⟨xs, e _ _ p2, ?_, ex_upd (ext p1 e) hD, xs ++ [v], upd_same, ?_⟩
    · rw [Paired.length p3, List.length_take]
      exact Nat.lt_of_le_of_lt (Nat.le_trans (Nat.min_le_right _ _) (by rw [hn]; exact hl)) (by decide)
    · rw [take_more ha]
      refine paired_snoc (mono _ _ _ _ tp hv) (paired_mono (fun v a q => mono _ _ _ _ tp (mono _ _ _ _ (fun c zs z => e _ _ z) q)) p3)
  · obtain ⟨p1, xs, p2, p3⟩ := p
    rw [List.take_of_length_le (by omega)] at p3
    exact hd H xs p1 p2 p3
def PdRow (H : Hp) (x : V) (hs : List Int) : Prop := ∃ r, x = V.ref r ∧ H r = some (.tup (hs.map V.int))
theorem pdrow_mono (H H2 : Hp) (v : V) (a : List Int) (e : ∀ c xs, H c = some (.tup xs) → H2 c = some (.tup xs)) (h : PdRow H v a) : PdRow H2 v a := by
  obtain ⟨r, h1, h2⟩ := h
  exact ⟨r, h1, e _ _ h2⟩

/-- a comprehension of new objects with a test -/
theorem lc_newF {α : Type} (Pd : Hp → V → α → Prop) (mono : ∀ (H H2 : Hp) (v : V) (a : α), (∀ c xs, H c = some (.tup xs) → H2 c = some (.tup xs)) → Pd H v a → Pd H2 v a)
    {J : It} {n : Nat} {G : Hp → Prop} {Y : Nat → Hp → V → Hp → Prop} (w : Walk J n G Y) {g : TG} {tt : TT} {te : TE} {vs : List Nat} {σ : L2.St} {H1 : Hp} {D : Addr} {Qd : Hp → Prop} (as : List α) (c : α → Bool) (hn : as.length = n) (hl : n ≤ 10000000) (hD : H1 D = none)
    (hG : ∀ H, Ex H1 H → G H)
    (hs : ∀ i x a H H2 (R : VK) (S : Hp → Prop), as[i]? = some a → Ex H1 H → Y i H x H2 → (∀ v H5, Ex H H5 → c a = true → Pd H5 v a → R v H5) → (∀ H4, Ex H H4 → c a = false → S H4) → g x (wipe σ vs) H2 fun σ2 H3 => wipe σ2 vs = wipe σ vs ∧ tt σ2 H3 fun b H4 => if b = true then te σ2 H4 R else S H4)
    (hd : ∀ H xs, Ex H1 H → H D = some (.lst xs) → Paired (Pd H) xs (as.filter c) → Qd H) :
    ∃ W : Nat → Nat → Hp → Prop, (∃ m, W 0 m (upd H1 D (.lst []))) ∧ ∀ i m H, W i m H →
      (J.stop i H ∧ Qd H) ∨ (J.go i H ∧ ∃ Nx : Hp → Prop, (∀ H2, Nx H2 → ∃ m2, m2 < m ∧ W (i + 1) m2 H2) ∧ ∀ x H2, J.yld i H x H2 → g x (wipe σ vs) H2 fun σ2 H3 => wipe σ2 vs = wipe σ vs ∧ tt σ2 H3 fun b H4 =>
        if b = true then te σ2 H4 fun y H5 => ∃ acc, H5 D = some (.lst acc) ∧ acc.length < sizeLine ∧ Nx (upd H5 D (.lst (acc ++ [y]))) else Nx H4) := by
  refine lc_it w (fun i H => Ex H1 H ∧ ∃ xs, H D = some (.lst xs) ∧ Paired (Pd H) xs ((as.take i).filter c)) ⟨exn hD, [], upd_same, .nil⟩ (fun i H _ p => hG H p.1) (fun i x H H2 hi p y => ?_) (fun H p => ?_)
  · obtain ⟨a, ha⟩ : ∃ a, as[i]? = some a := ⟨as[i]'(by omega), List.getElem?_eq_getElem (by omega)⟩
    obtain ⟨p1, xs, p2, p3⟩ := p
    refine hs i x a H H2 _ (fun H3 => Ex H1 H3 ∧ ∃ xs, H3 D = some (.lst xs) ∧ Paired (Pd H3) xs ((as.take (i + 1)).filter c)) ha p1 y (fun v H5 e hc hv => ?_) (fun H4 e hc => ?_)
    · have tp : ∀ c zs, H5 c = some (.tup zs) → upd H5 D (.lst (xs ++ [v])) c = some (.tup zs) := fun c zs z => by
        rw [upd_ne (ne_of z (e _ _ p2) (by intro q; cases q))]
        exact z
      refine ⟨xs, e _ _ p2, ?_, ex_upd (ext p1 e) hD, xs ++ [v], upd_same, ?_⟩
      · rw [Paired.length p3]
        refine Nat.lt_of_le_of_lt (Nat.le_trans (List.length_filter_le _ _) ?_) (show 10000000 < sizeLine by decide)
        rw [List.length_take]
        omega
      · rw [take_more ha, List.filter_append, show [a].filter c = [a] by simp [hc]]
        exact paired_snoc (mono _ _ _ _ tp hv) (paired_mono (fun v a q => mono _ _ _ _ tp (mono _ _ _ _ (fun c zs z => e _ _ z) q)) p3)
    · refine ⟨ext p1 e, xs, e _ _ p2, ?_⟩
      rw [take_more ha, List.filter_append, show [a].filter c = [] by simp [hc], List.append_nil]
      exact paired_mono (fun v a q => mono _ _ _ _ (fun c zs z => e _ _ z) q) p3
  · obtain ⟨p1, xs, p2, p3⟩ := p
    rw [List.take_of_length_le (by omega)] at p3
    exact hd H xs p1 p2 p3
/-- .. of new objects of any kind, beside the list itself -/
theorem lc_newG {α : Type} {D : Addr} (Pd : Hp → V → α → Prop) (mono : ∀ (H H2 : Hp) (v : V) (a : α) (ys : List V), H D = some (.lst ys) → (∀ c o, c ≠ D → H c = some o → H2 c = some o) → Pd H v a → Pd H2 v a)
    {J : It} {n : Nat} {G : Hp → Prop} {Y : Nat → Hp → V → Hp → Prop} (w : Walk J n G Y) {g : TG} {tt : TT} {te : TE} {vs : List Nat} {σ : L2.St} {H1 : Hp} {Qd : Hp → Prop} (as : List α) (c : α → Bool) (hn : as.length = n) (hl : n ≤ 10000000) (hD : H1 D = none)
    (hG : ∀ H, Ex H1 H → G H)
    (hs : ∀ i x a H H2 (R : VK) (S : Hp → Prop), as[i]? = some a → Ex H1 H → (∃ ys, H D = some (.lst ys)) → Y i H x H2 → (∀ v H5, Ex H H5 → c a = true → Pd H5 v a → R v H5) → (∀ H4, Ex H H4 → c a = false → S H4) → g x (wipe σ vs) H2 fun σ2 H3 => wipe σ2 vs = wipe σ vs ∧ tt σ2 H3 fun b H4 => if b = true then te σ2 H4 R else S H4)
    (hd : ∀ H xs, Ex H1 H → H D = some (.lst xs) → Paired (Pd H) xs (as.filter c) → Qd H) :
    ∃ W : Nat → Nat → Hp → Prop, (∃ m, W 0 m (upd H1 D (.lst []))) ∧ ∀ i m H, W i m H →
      (J.stop i H ∧ Qd H) ∨ (J.go i H ∧ ∃ Nx : Hp → Prop, (∀ H2, Nx H2 → ∃ m2, m2 < m ∧ W (i + 1) m2 H2) ∧ ∀ x H2, J.yld i H x H2 → g x (wipe σ vs) H2 fun σ2 H3 => wipe σ2 vs = wipe σ vs ∧ tt σ2 H3 fun b H4 =>
        if b = true then te σ2 H4 fun y H5 => ∃ acc, H5 D = some (.lst acc) ∧ acc.length < sizeLine ∧ Nx (upd H5 D (.lst (acc ++ [y]))) else Nx H4) := by
  refine lc_it w (fun i H => Ex H1 H ∧ ∃ xs, H D = some (.lst xs) ∧ Paired (Pd H) xs ((as.take i).filter c)) ⟨exn hD, [], upd_same, .nil⟩ (fun i H _ p => hG H p.1) (fun i x H H2 hi p y => ?_) (fun H p => ?_)
  · obtain ⟨a, ha⟩ : ∃ a, as[i]? = some a := ⟨as[i]'(by omega), List.getElem?_eq_getElem (by omega)⟩
    obtain ⟨p1, xs, p2, p3⟩ := p
    refine hs i x a H H2 _ (fun H3 => Ex H1 H3 ∧ ∃ xs, H3 D = some (.lst xs) ∧ Paired (Pd H3) xs ((as.take (i + 1)).filter c)) ha p1 ⟨xs, p2⟩ y (fun v H5 e hc hv => ?_) (fun H4 e hc => ?_)
    · have tp : ∀ c o, c ≠ D → H5 c = some o → upd H5 D (.lst (xs ++ [v])) c = some o := fun c o n z => by
        rw [upd_ne n]
        exact z
      refine ⟨xs, e _ _ p2, ?_, ex_upd (ext p1 e) hD, xs ++ [v], upd_same, ?_⟩
      · rw [Paired.length p3]
        refine Nat.lt_of_le_of_lt (Nat.le_trans (List.length_filter_le _ _) ?_) (show 10000000 < sizeLine by decide)
        rw [List.length_take]
        omega
      · rw [take_more ha, List.filter_append, show [a].filter c = [a] by simp [hc]]
        exact paired_snoc (mono _ _ _ _ _ (e _ _ p2) tp hv) (paired_mono (fun v a q => mono _ _ _ _ _ (e _ _ p2) tp (mono _ _ _ _ _ p2 (fun c o _ z => e _ _ z) q)) p3)
    · refine ⟨ext p1 e, xs, e _ _ p2, ?_⟩
      rw [take_more ha, List.filter_append, show [a].filter c = [] by simp [hc], List.append_nil]
      exact paired_mono (fun v a q => mono _ _ _ _ _ p2 (fun c o _ z => e _ _ z) q) p3
  · obtain ⟨p1, xs, p2, p3⟩ := p
    rw [List.take_of_length_le (by omega)] at p3
    exact hd H xs p1 p2 p3
/-- a new list of tuples of ints -/
def PdRows (D : Addr) (H : Hp) (v : V) (row : List (List Int)) : Prop := ∃ a, v = V.ref a ∧ a ≠ D ∧ RowsAt H a row
theorem pdrows_mono {D : Addr} (H H2 : Hp) (v : V) (row : List (List Int)) (ys : List V) (hD : H D = some (.lst ys)) (e : ∀ c o, c ≠ D → H c = some o → H2 c = some o) (h : PdRows D H v row) : PdRows D H2 v row := by
  obtain ⟨a, h1, h2, xs, h3, h4⟩ := h
  exact ⟨a, h1, h2, xs, e _ _ h2 h3, paired_mono (fun v hs ⟨r, q1, q2⟩ => ⟨r, q1, e _ _ (ne_of q2 hD (by intro z; cases z)) q2⟩) h4⟩

/-! ### any data, read from the heap; B says where its lists may lie -/
mutual
inductive Dq (B : Addr → Prop) (H : Hp) : V → PyData → Prop
  | non : Dq B H .non .none
  | bl (b : Bool) : Dq B H (.bl b) (.bool b)
  | int (i : Int) : Dq B H (.int i) (.int i)
  | str (x : Str) : Dq B H (.str x) (.str x)
  | lst {a : Addr} {xs : List V} {ds : List PyData} : H a = some (.lst xs) → B a → DqAll B H xs ds → Dq B H (.ref a) (.list ds)
  | tup {a : Addr} {xs : List V} {ds : List PyData} : H a = some (.tup xs) → DqAll B H xs ds → Dq B H (.ref a) (.tuple ds)
  | emp {a : Addr} : H a = some (.dK []) → Dq B H (.ref a) (.dict [])
inductive DqAll (B : Addr → Prop) (H : Hp) : List V → List PyData → Prop
  | nil : DqAll B H [] []
  | cons {v : V} {vs : List V} {d : PyData} {ds : List PyData} : Dq B H v d → DqAll B H vs ds → DqAll B H (v :: vs) (d :: ds)
end
mutual
theorem Dq.to {B B2 : Addr → Prop} {H H2 : Hp} (l : ∀ a xs, B a → H a = some (.lst xs) → H2 a = some (.lst xs) ∧ B2 a) (t : ∀ a xs, H a = some (.tup xs) → H2 a = some (.tup xs)) (e0 : ∀ a, H a = some (.dK []) → H2 a = some (.dK [])) : ∀ {d : PyData} {v : V}, Dq B H v d → Dq B2 H2 v d
  | _, _, .non => .non
  | _, _, .bl b => .bl b
  | _, _, .int i => .int i
  | _, _, .str x => .str x
  | _, _, .lst h b hs => .lst (l _ _ b h).1 (l _ _ b h).2 (DqAll.to l t e0 hs)
  | _, _, .tup h hs => .tup (t _ _ h) (DqAll.to l t e0 hs)
  | _, _, .emp h => .emp (e0 _ h)
theorem DqAll.to {B B2 : Addr → Prop} {H H2 : Hp} (l : ∀ a xs, B a → H a = some (.lst xs) → H2 a = some (.lst xs) ∧ B2 a) (t : ∀ a xs, H a = some (.tup xs) → H2 a = some (.tup xs)) (e0 : ∀ a, H a = some (.dK []) → H2 a = some (.dK [])) : ∀ {ds : List PyData} {vs : List V}, DqAll B H vs ds → DqAll B2 H2 vs ds
  | _, _, .nil => .nil
  | _, _, .cons h hs => .cons (Dq.to l t e0 h) (DqAll.to l t e0 hs)
end
theorem Dq.mono {B : Addr → Prop} {H H2 : Hp} (e : Ex H H2) {d : PyData} {v : V} (h : Dq B H v d) : Dq B H2 v d := h.to (fun _ _ b h => ⟨e _ _ h, b⟩) (fun _ _ h => e _ _ h) (fun _ h => e _ _ h)
theorem DqAll.mono {B : Addr → Prop} {H H2 : Hp} (e : Ex H H2) {ds : List PyData} {vs : List V} (h : DqAll B H vs ds) : DqAll B H2 vs ds := h.to (fun _ _ b h => ⟨e _ _ h, b⟩) (fun _ _ h => e _ _ h) (fun _ h => e _ _ h)
mutual
theorem Dq.de {K : PySem.W.Frag} {B : Addr → Prop} {H : Hp} : ∀ {d : PyData} {v : V}, Dq B H v d → CG.De K H v d
  | _, _, .non => .non
  | _, _, .bl b => .bl b
  | _, _, .int i => .int i
  | _, _, .str x => .str x
  | _, _, .lst h _ hs => .lst (SqL.of h) (DqAll.de hs)
  | _, _, .tup h hs => .tup (SqT.of h) (DqAll.de hs)
  | _, _, .emp h => .emp h
theorem DqAll.de {K : PySem.W.Frag} {B : Addr → Prop} {H : Hp} : ∀ {ds : List PyData} {vs : List V}, DqAll B H vs ds → CG.DeAll K H vs ds
  | _, _, .nil => .nil
  | _, _, .cons h hs => .cons (Dq.de h) (DqAll.de hs)
end
theorem DqAll.ints {B : Addr → Prop} {H : Hp} : ∀ (is : List Int), DqAll B H (is.map V.int) (is.map PyData.int)
  | [] => .nil
  | i :: is => .cons (.int i) (DqAll.ints is)
theorem Dq.ints {B : Addr → Prop} {H : Hp} {a : Addr} {is : List Int} (h : H a = some (.tup (is.map V.int))) : Dq B H (.ref a) (iT is) := .tup h (DqAll.ints is)
/-- an int that is no bool -/
def intD : PyData → Option Int
  | .int i => some i
  | _ => none
theorem Dq.isI {K : PySem.W.Frag} {B : Addr → Prop} {H : Hp} {v : V} {d : PyData} (h : Dq B H v d) : IsI K H v (intD d) := by
  cases h with
  | int i => exact rfl
  | non => exact ⟨_, _, _, .base .non, kit_ty (r := false) (by decide +kernel), kit_ty (r := false) (by decide +kernel), rfl⟩
  | bl b => exact ⟨_, _, _, .base (.bl b), kit_ty (r := true) (by decide +kernel), kit_ty (r := true) (by decide +kernel), rfl⟩
  | str x => exact ⟨_, _, _, .base (.str x), kit_ty (r := false) (by decide +kernel), kit_ty (r := false) (by decide +kernel), rfl⟩
  | lst h _ _ => exact ⟨_, _, _, .base (.lst h), kit_ty (r := false) (by decide +kernel), kit_ty (r := false) (by decide +kernel), rfl⟩
  | tup h _ => exact ⟨_, _, _, .base (.tup h), kit_ty (r := false) (by decide +kernel), kit_ty (r := false) (by decide +kernel), rfl⟩
  | emp h => exact ⟨_, _, _, .base (.dK h), kit_ty (r := false) (by decide +kernel), kit_ty (r := false) (by decide +kernel), rfl⟩
/-- what is in a tuple -/
def tupD : PyData → Option (List PyData)
  | .tuple ds => some ds
  | _ => none
theorem Dq.isT {K : PySem.W.Frag} {B : Addr → Prop} {H : Hp} {v : V} {d : PyData} (h : Dq B H v d) : ∃ t, TyX K H v t ∧ PySem.W.kitOne K t (.type "tuple") = some (tupD d).isSome := by
  cases h with
  | int i => exact ⟨_, .base (.int i), kit_ty (r := false) (by decide +kernel)⟩
  | non => exact ⟨_, .base .non, kit_ty (r := false) (by decide +kernel)⟩
  | bl b => exact ⟨_, .base (.bl b), kit_ty (r := false) (by decide +kernel)⟩
  | str x => exact ⟨_, .base (.str x), kit_ty (r := false) (by decide +kernel)⟩
  | lst h _ _ => exact ⟨_, .base (.lst h), kit_ty (r := false) (by decide +kernel)⟩
  | tup h _ => exact ⟨_, .base (.tup h), kit_ty (r := true) (by decide +kernel)⟩
  | emp h => exact ⟨_, .base (.dK h), kit_ty (r := false) (by decide +kernel)⟩
theorem Dq.tupA {B : Addr → Prop} {H : Hp} {v : V} {d : PyData} {ds : List PyData} (h : Dq B H v d) (e : tupD d = some ds) : ∃ a xs, v = .ref a ∧ H a = some (.tup xs) ∧ DqAll B H xs ds := by
  cases h with
  | tup h hs => cases e; exact ⟨_, _, rfl, h, hs⟩
  | _ => cases e
theorem DqAll.len {B : Addr → Prop} {H : Hp} : ∀ {xs : List V} {ds : List PyData}, DqAll B H xs ds → xs.length = ds.length
  | _, _, .nil => rfl
  | _, _, .cons _ t => by rw [List.length_cons, List.length_cons, DqAll.len t]
theorem DqAll.get {B : Addr → Prop} {H : Hp} : ∀ {xs : List V} {ds : List PyData} {j : Nat} {x : V}, DqAll B H xs ds → xs[j]? = some x → ∃ d, ds[j]? = some d ∧ Dq B H x d
  | _, _, _, _, .nil, h => by simp at h
  | _, _, 0, _, .cons h _, e => ⟨_, rfl, by obtain rfl := Option.some.inj e; exact h⟩
  | _, _, j + 1, _, .cons _ t, e => DqAll.get (j := j) t (by simpa using e)
theorem dq_ints {B : Addr → Prop} {H : Hp} : ∀ {xs : List V} {ws : List PyData}, DqAll B H xs ws → (∀ w ∈ ws, ∃ i, intD w = some i) → ∃ is : List Int, ws = is.map PyData.int ∧ xs = is.map V.int
  | _, _, .nil, _ => ⟨[], rfl, rfl⟩
  | _, _, .cons h t, a => by
    obtain ⟨is, e1, e2⟩ := dq_ints t fun w hw => a w (List.mem_cons_of_mem _ hw)
    obtain ⟨i, hi⟩ := a _ List.mem_cons_self
    cases h with
    | int j => exact ⟨j :: is, by rw [e1]; rfl, by rw [e2]; rfl⟩
    | _ => cases hi
theorem ints_of : ∀ {ws : List PyData}, (∀ w ∈ ws, ∃ i, intD w = some i) → ∃ is : List Int, ws = is.map PyData.int
  | [], _ => ⟨[], rfl⟩
  | w :: ws, a => by
    obtain ⟨is, e1⟩ := ints_of fun w hw => a w (List.mem_cons_of_mem _ hw)
    obtain ⟨i, hi⟩ := a _ List.mem_cons_self
    cases w with
    | int j => exact ⟨j :: is, by rw [e1]; rfl⟩
    | _ => cases hi
theorem fm_ints (is : List Int) : (is.map PyData.int).filterMap intD = is := by
  induction is with
  | nil => rfl
  | cons i is ih => rw [List.map_cons, List.filterMap_cons, ih]; rfl
theorem betw_some {o : Option Int} {a b : Int} (h : between o a b = true) : ∃ i, o = some i ∧ a ≤ i ∧ i ≤ b := by
  cases o with
  | none => cases h
  | some i =>
    have h2 : (decide (a ≤ i) && decide (i ≤ b)) = true := h
    rw [Bool.and_eq_true, decide_eq_true_iff, decide_eq_true_iff] at h2
    exact ⟨i, rfl, h2.1, h2.2⟩

def oT (d : PyData) : Option (List (Option Int)) := (tupD d).map fun es => es.map intD
def intsD (d : PyData) : List Int := ((tupD d).getD []).filterMap intD
/-- no tuple is too long -/
def ShortT (d : PyData) : Prop := ∀ es, tupD d = some es → es.length ≤ 1000
theorem Dq.tA {K : PySem.W.Frag} {B : Addr → Prop} {H : Hp} {v : V} {d : PyData} (h : Dq B H v d) (tb : ShortT d) : TupA K H v (oT d) := by
  have all : ∀ {xs : List V} {ds : List PyData}, DqAll B H xs ds → Paired (IsI K H) xs (ds.map intD) := by
    intro xs ds q
    induction xs generalizing ds with
    | nil => cases q; exact .nil
    | cons x xs ih =>
      cases q with
      | cons a b => exact .cons a.isI (ih b)
  cases h with
  | tup h hs => exact ⟨_, _, rfl, h, by rw [hs.len]; exact tb _ rfl, all hs⟩
  | int i => exact ⟨_, .base (.int i), kit_ty (r := false) (by decide +kernel)⟩
  | non => exact ⟨_, .base .non, kit_ty (r := false) (by decide +kernel)⟩
  | bl b => exact ⟨_, .base (.bl b), kit_ty (r := false) (by decide +kernel)⟩
  | str x => exact ⟨_, .base (.str x), kit_ty (r := false) (by decide +kernel)⟩
  | lst h _ _ => exact ⟨_, .base (.lst h), kit_ty (r := false) (by decide +kernel)⟩
  | emp h => exact ⟨_, .base (.dK h), kit_ty (r := false) (by decide +kernel)⟩
theorem betw_all : ∀ {ns : List Int} {ws : List PyData}, ws.length = ns.length → (List.zipWith (fun o n => between o 0 (n - 1)) (ws.map intD) ns).all id = true → ∃ ps : List Int, ws = ps.map PyData.int ∧ SeatOk ns ps
  | [], [], _, _ => ⟨[], rfl, True.intro⟩
  | n :: ns, w :: ws, l, h => by
    rw [List.map_cons, List.zipWith_cons_cons, List.all_cons, Bool.and_eq_true] at h
    obtain ⟨ps, rfl, sk⟩ := betw_all (ns := ns) (ws := ws) (by simpa using l) h.2
    obtain ⟨i, e, i0, i1⟩ := betw_some (show between (intD w) 0 (n - 1) = true from h.1)
    cases w with
    | int j =>
      cases e
      exact ⟨_ :: ps, rfl, ⟨i0, by omega⟩, sk⟩
    | _ => cases e
theorem seat_ints {ns : List Int} {d : PyData} (h : isSeatO ns (oT d) = true) : ∃ ps, d = iT ps ∧ SeatOk ns ps := by
  cases d with
  | tuple ws =>
    have h : (decide ((ws.map intD).length = ns.length) && (List.zipWith (fun o n => between o 0 (n - 1)) (ws.map intD) ns).all id) = true := h
    rw [Bool.and_eq_true, decide_eq_true_iff, List.length_map] at h
    obtain ⟨ps, rfl, sk⟩ := betw_all h.1 h.2
    exact ⟨ps, rfl, sk⟩
  | _ => cases h
theorem call_ints {ns : List Int} {d : PyData} (h : isCallO ns (oT d) = true) : ∃ cs, d = iT cs ∧ cs.length = ns.length := by
  cases d with
  | tuple ws =>
    have h : (decide ((ws.map intD).length = ns.length) && ((ws.map intD).map Option.isSome).all id) = true := h
    rw [Bool.and_eq_true, decide_eq_true_iff, List.length_map, List.all_eq_true] at h
    obtain ⟨cs, rfl⟩ := ints_of (ws := ws) fun w hw => Option.isSome_iff_exists.mp (h.2 _ (List.mem_map.mpr ⟨_, List.mem_map.mpr ⟨w, hw, rfl⟩, rfl⟩))
    exact ⟨cs, rfl, by rw [← h.1, List.length_map]⟩
  | _ => cases h
/-! ### targets of any kind -/
/-- a value that is no list and no tuple -/
def NoSeq (H : Hp) (x : V) : Prop := x = .non ∨ (∃ b, x = .bl b) ∨ (∃ i, x = .int i) ∨ (∃ z, x = .str z) ∨ ∃ a, x = .ref a ∧ ((∃ kvs, H a = some (.dK kvs)) ∨ ∃ kvs, H a = some (.dT kvs))
theorem NoSeq.ty {K : PySem.W.Frag} {H : Hp} {x : V} (h : NoSeq H x) : ∃ ty, TyX K H x ty ∧ PySem.W.kitAny K ty [.type "list", .type "tuple"] = some false := by
  have no : ∀ {t : String}, PySem.W.kitOne K (.type t) (.type "list") = some false → PySem.W.kitOne K (.type t) (.type "tuple") = some false → PySem.W.kitAny K (.type t) [.type "list", .type "tuple"] = some false := fun {t} h1 h2 => kitAny_cons h1 (fun _ => kitAny_cons h2 (fun _ => rfl) (fun z => nomatch z)) (fun z => nomatch z)
  rcases h with rfl | ⟨b, rfl⟩ | ⟨i, rfl⟩ | ⟨z, rfl⟩ | ⟨a, rfl, ⟨kvs, h⟩ | ⟨kvs, h⟩⟩
  · exact ⟨_, .base .non, no (kit_ty (r := false) (by decide +kernel)) (kit_ty (r := false) (by decide +kernel))⟩
  · exact ⟨_, .base (.bl b), no (kit_ty (r := false) (by decide +kernel)) (kit_ty (r := false) (by decide +kernel))⟩
  · exact ⟨_, .base (.int i), no (kit_ty (r := false) (by decide +kernel)) (kit_ty (r := false) (by decide +kernel))⟩
  · exact ⟨_, .base (.str z), no (kit_ty (r := false) (by decide +kernel)) (kit_ty (r := false) (by decide +kernel))⟩
  · exact ⟨_, .base (.dK h), no (kit_ty (r := false) (by decide +kernel)) (kit_ty (r := false) (by decide +kernel))⟩
  · exact ⟨_, .base (.dT h), no (kit_ty (r := false) (by decide +kernel)) (kit_ty (r := false) (by decide +kernel))⟩
theorem NoSeq.to {H H2 : Hp} {x : V} (k : ∀ a kvs, H a = some (.dK kvs) → H2 a = some (.dK kvs)) (t : ∀ a kvs, H a = some (.dT kvs) → H2 a = some (.dT kvs)) (h : NoSeq H x) : NoSeq H2 x := by
  rcases h with rfl | ⟨b, rfl⟩ | ⟨i, rfl⟩ | ⟨z, rfl⟩ | ⟨a, rfl, ⟨kvs, h⟩ | ⟨kvs, h⟩⟩
  · exact .inl rfl
  · exact .inr (.inl ⟨b, rfl⟩)
  · exact .inr (.inr (.inl ⟨i, rfl⟩))
  · exact .inr (.inr (.inr (.inl ⟨z, rfl⟩)))
  · exact .inr (.inr (.inr (.inr ⟨a, rfl, .inl ⟨kvs, k _ _ h⟩⟩)))
  · exact .inr (.inr (.inr (.inr ⟨a, rfl, .inr ⟨kvs, t _ _ h⟩⟩)))
/-- a value that is no list and no tuple (none), or the entries of one -/
def TgtAt (K : PySem.W.Frag) (B : Addr → Prop) (H : Hp) (x : V) : Option (List PyData) → Prop
  | none => NoSeq H x
  | some ds => ∃ (q : Bool × Addr) (xs : List V), x = .ref q.2 ∧ SqH H q xs ∧ DqAll B H xs ds
def goT (ns : List Int) : List PyData → List (List Int) → Option Int
  | [], _ => none
  | d :: ds, seen => if isSeatO ns (oT d) = true ∧ intsD d ∉ seen then goT ns ds (seen ++ [intsD d]) else some (seen.length : Int)
def tgtDue (ns : List Int) : Option (List PyData) → Option Int
  | none => some (-1)
  | some ds => if ds = [] then some (-1) else goT ns ds []
theorem goT_step {ns : List Int} {ds : List PyData} {d : PyData} {i : Nat} {seen : List (List Int)} (h : ds[i]? = some d) : goT ns (ds.drop i) seen = if isSeatO ns (oT d) = true ∧ intsD d ∉ seen then goT ns (ds.drop (i + 1)) (seen ++ [intsD d]) else some (seen.length : Int) := by
  have il := (List.getElem?_eq_some_iff.mp h).1
  have e : ds.drop i = d :: ds.drop (i + 1) := by
    rw [List.drop_eq_getElem_cons il]
    rw [List.getElem?_eq_getElem il] at h
    rw [Option.some.inj h]
  rw [e]
  rfl
theorem Dq.tgt {K : PySem.W.Frag} {B : Addr → Prop} {H : Hp} {v : V} {d : PyData} (q : Dq B H v d) : TgtAt K B H v (match d with | .list ds => some ds | .tuple ds => some ds | _ => none) := by
  cases q with
  | lst h _ hs => exact ⟨(false, _), _, rfl, h, hs⟩
  | tup h hs => exact ⟨(true, _), _, rfl, h, hs⟩
  | non => exact .inl rfl
  | bl b => exact .inr (.inl ⟨b, rfl⟩)
  | int i => exact .inr (.inr (.inl ⟨i, rfl⟩))
  | str z => exact .inr (.inr (.inr (.inl ⟨z, rfl⟩)))
  | emp h => exact .inr (.inr (.inr (.inr ⟨_, rfl, .inl ⟨_, h⟩⟩)))
theorem TgtAt.mono {K : PySem.W.Frag} {B : Addr → Prop} {H H2 : Hp} {x : V} {od : Option (List PyData)} (e : Ex H H2) (h : TgtAt K B H x od) : TgtAt K B H2 x od := by
  cases od with
  | none =>
    exact NoSeq.to (fun a kvs z => e _ _ z) (fun a kvs z => e _ _ z) h
  | some ds =>
    obtain ⟨q, xs, rfl, h1, h2⟩ := h
    exact ⟨q, xs, rfl, h1.mono e, h2.mono e⟩
theorem intsD_is (ps : List Int) : intsD (iT ps) = ps := fm_ints ps

/-- an exception with one field -/
def sp_exi (C : Addr) (f : Str) : Sp := fun vs H Q _ => ∃ (a : Addr) (x : V), vs = [.ref a, x] ∧ H a = some (exo a C none) ∧ ∀ dx, H dx = none → dx ≠ a → Q .non (upd (upd H dx (exd dx [(f, x)])) a (exo a C (some dx)))
theorem exc_made {H : Hp} {a C : Addr} {f : Str} {x : V} {E E1 : XK} (na : H a = none) (k : ∀ d H2, Ex H H2 → H2 d = some (.xd [(f, x)]) → E (.ref C) (some d) H2) :
    sp_exi C f [.ref a, x] (upd H a (exo a C none)) (fun v H2 => v = .non ∧ ∃ (d : Addr) (fs : List (Str × V)), H2 a = some (exo a C (some d)) ∧ H2 d = some (exd d fs) ∧ H d = none ∧ E (.ref C) (some d) (upd (del H2 a) d (.xd fs))) E1 := by
  refine ⟨a, x, rfl, upd_same, fun dx hd ne => ⟨rfl, dx, _, upd_same, by rw [upd_ne ne, upd_same], by rw [upd_ne ne] at hd; exact hd, k _ _ (fun c o hc => ?_) upd_same⟩⟩
  have ca : c ≠ a := ne_of_none hc na
  have cd : c ≠ dx := ne_of_none hc (by rw [upd_ne ne] at hd; exact hd)
  rw [upd_ne cd, del_ne ca, upd_ne ca, upd_ne cd, upd_ne ca]
  exact hc

section
variable {P : Program} {w : World} {K : PySem.W.Frag} {mg : Str → Option Value} {base : Heap}
theorem ok_InvalidTable_init (T : TX K mg) : FnOk P w K mg base CX0 1 T.f_InvalidTable_init T.fd_InvalidTable_init ["self", "rings"] (sp_exi T.C_InvalidTable "rings") := by
  refine T.F_InvalidTable_init.ok sc_InvalidTable_init (fun vs H Q E h => ?_) (fun cdv A outer s H vs Q E hr h => ?_)
  · obtain ⟨a, x, rfl, _⟩ := h
    rfl
  · obtain ⟨a, x, rfl, ha, k⟩ := h
    refine ⟨_, (pss_one (ps_ost (pv 0) (pv 1))), ?_⟩
    exact ⟨_, rfl, _, rfl, a, _, rfl, T.ox_InvalidTable, T.n_InvalidTable_rings, .inl ⟨ha, fun dx n ne => k dx n ne⟩⟩
end

section
variable {P : Program} {w : World} {K : PySem.W.Frag} {mg : Str → Option Value} {base : Heap}
theorem ok_InvalidSeat_init (T : TX K mg) : FnOk P w K mg base CX0 1 T.f_InvalidSeat_init T.fd_InvalidSeat_init ["self", "seat"] (sp_exi T.C_InvalidSeat "seat") := by
  refine T.F_InvalidSeat_init.ok sc_InvalidSeat_init (fun vs H Q E h => ?_) (fun cdv A outer s H vs Q E hr h => ?_)
  · obtain ⟨a, x, rfl, _⟩ := h
    rfl
  · obtain ⟨a, x, rfl, ha, k⟩ := h
    refine ⟨_, (pss_one (ps_ost (pv 0) (pv 1))), ?_⟩
    exact ⟨_, rfl, _, rfl, a, _, rfl, T.ox_InvalidSeat, T.n_InvalidSeat_seat, .inl ⟨ha, fun dx n ne => k dx n ne⟩⟩
end

section
variable {P : Program} {w : World} {K : PySem.W.Frag} {mg : Str → Option Value} {base : Heap}
theorem ok_InvalidCall_init (T : TX K mg) : FnOk P w K mg base CX0 1 T.f_InvalidCall_init T.fd_InvalidCall_init ["self", "call"] (sp_exi T.C_InvalidCall "call") := by
  refine T.F_InvalidCall_init.ok sc_InvalidCall_init (fun vs H Q E h => ?_) (fun cdv A outer s H vs Q E hr h => ?_)
  · obtain ⟨a, x, rfl, _⟩ := h
    rfl
  · obtain ⟨a, x, rfl, ha, k⟩ := h
    refine ⟨_, (pss_one (ps_ost (pv 0) (pv 1))), ?_⟩
    exact ⟨_, rfl, _, rfl, a, _, rfl, T.ox_InvalidCall, T.n_InvalidCall_call, .inl ⟨ha, fun dx n ne => k dx n ne⟩⟩
end

section
variable {P : Program} {w : World} {K : PySem.W.Frag} {mg : Str → Option Value} {base : Heap}
theorem ok_InvalidDirection_init (T : TX K mg) : FnOk P w K mg base CX0 1 T.f_InvalidDirection_init T.fd_InvalidDirection_init ["self", "direction"] (sp_exi T.C_InvalidDirection "direction") := by
  refine T.F_InvalidDirection_init.ok sc_InvalidDirection_init (fun vs H Q E h => ?_) (fun cdv A outer s H vs Q E hr h => ?_)
  · obtain ⟨a, x, rfl, _⟩ := h
    rfl
  · obtain ⟨a, x, rfl, ha, k⟩ := h
    refine ⟨_, (pss_one (ps_ost (pv 0) (pv 1))), ?_⟩
    exact ⟨_, rfl, _, rfl, a, _, rfl, T.ox_InvalidDirection, T.n_InvalidDirection_direction, .inl ⟨ha, fun dx n ne => k dx n ne⟩⟩
end

section
variable {P : Program} {w : World} {K : PySem.W.Frag} {mg : Str → Option Value} {base : Heap}
/-- whether the value is an instance of the class C -/
def InsB (K : PySem.W.Frag) (C : Addr) (H : Hp) (x : V) (b : Bool) : Prop := ∃ ty, TyX K H x ty ∧ PySem.W.kitOne K ty (.ref C) = some b
/-- what a def raises: an exception of the class CE with one field -/
def Rai (E : XK) (H : Hp) (CE : Addr) (f : Str) (v : V) : Prop := ∀ (dd : Addr) (H2 : Hp), Ex H H2 → H2 dd = some (.xd [(f, v)]) → E (.ref CE) (some dd) H2
theorem Rai.mono {E : XK} {H H2 : Hp} {CE : Addr} {f : Str} {v : V} (h : Rai E H CE f v) (e : Ex H H2) : Rai E H2 CE f v := fun dd H3 e3 hd => h dd H3 (ext e e3) hd
def spX_require_seat (K : PySem.W.Frag) (C CE : Addr) : Sp := fun vs H Q E => ∃ (a : Addr) (x : V) (ns : List Int) (ot : Option (List (Option Int))), vs = [.ref a, x] ∧ TabAt C H a ns ∧ ns.length ≤ 4 ∧ TupA K H x ot ∧ (isSeatO ns ot = true → ∀ H2, Ex H H2 → Q .non H2) ∧ (isSeatO ns ot = false → Rai E H CE "seat" x)
theorem okX_require_seat (T : TX K mg) : FnOk P w K mg base (L2.CX P w) 4 T.f_require_seat T.fd_require_seat ["table", "seat"] (spX_require_seat K T.C_Table T.C_InvalidSeat) := by
  refine T.F_require_seat.okX sc_require_seat (fun vs H Q E h => ?_) (fun cdv A outer s H vs Q E hr h => ?_)
  · obtain ⟨a, x, ns, ot, rfl, _⟩ := h
    rfl
  · obtain ⟨a, x, ns, ot, rfl, tab, l4, hx, kQ, kE⟩ := h
    obtain ⟨dx, t, h1, h2⟩ := id tab
    refine ⟨_, (pss_one (ps_if (pt_not (pt_val (pe_meth (pv 0) T.cl_Table T.me_Table_is_seat (ok_Table_is_seat T) hr T.b_Table_is_seat .nil pass0 (pa_cons (pv 1) pa_nil)))) (pss_one (ps_raise rfl (takes_of rfl rfl rfl rfl) (pmk_oex T.ox_InvalidSeat T.i_InvalidSeat T.ti_InvalidSeat (ok_InvalidSeat_init T) (hr.mono (by decide)) T.b_InvalidSeat_init .nil pass0 rfl T.m_InvalidSeat (pa_cons (pv 1) pa_nil)))) pss_nil)), ?_⟩
    refine ⟨_, rfl, a, dx, _, rfl, h1, rfl, _, rfl, a, x, ns, ot, rfl, tab, l4, hx, fun H2 e2 => ?_⟩
    cases is : isSeatO ns ot with
    | true => exact ⟨_, rfl, itf rfl (kQ is H2 e2)⟩
    | false =>
      refine ⟨_, rfl, itt rfl ?_⟩
      refine ⟨_, rfl, by show 1 ≤ 1000; decide, fun ea na => ?_⟩
      exact exc_made na fun dd H4 e4 hd => kE is dd H4 (ext e2 e4) hd
end

/-! ### tables: errors for values of any kind -/
/-- values that are no ring sizes -/
def rgBad : Option (List PyData) → Bool
  | none => true
  | some ds => !(decide (1 ≤ ds.length ∧ ds.length ≤ 4) && (ds.map fun d => atLeast (intD d) 1).all id)
section
variable {P : Program} {w : World} {K : PySem.W.Frag} {mg : Str → Option Value} {base : Heap}
def spX_Table_init (K : PySem.W.Frag) (C CE : Addr) : Sp := fun vs H Q E => ∃ (p dx : Addr) (x : V) (B : Addr → Prop) (od : Option (List PyData)), vs = [.ref p, x] ∧ H p = some (.ins C dx []) ∧ TgtAt K B H x od ∧ (∀ ds, od = some ds → ds.length ≤ 1000) ∧ rgBad od = true ∧ Rai E H CE "rings" x
theorem okX_Table_init (T : TX K mg) : FnOk P w K mg base (L2.CX P w) 3 T.f_Table_init T.fd_Table_init ["self", "rings"] (spX_Table_init K T.C_Table T.C_InvalidTable) := by
  refine T.F_Table_init.okX sc_Table_init (fun vs H Q E h => ?_) (fun cdv A outer s H vs Q E hr h => ?_)
  · obtain ⟨p, dx, x, B, od, rfl, _⟩ := h
    rfl
  · obtain ⟨p, dx, x, B, od, rfl, hp, ht, le, bad, kE⟩ := h
    refine ⟨_, (pss_cons (ps_if (PW.pt (pw_or (pt_not (pt_val (pe_callB call_isiT (by rfl) T.z_isinstance (by decide +kernel) (pa_cons (pv 1) (pa_cons (pe_tup (pa_cons (pe_bltn (v := .ty "list") rfl T.z_list (by decide +kernel) rfl) (pa_cons (pe_bltn (v := .ty "tuple") rfl T.z_tuple (by decide +kernel) rfl) pa_nil))) pa_nil))))) (pw_or1 (pt_not (pt_chain op_le op_le pe_int (pe_callB call_len_seq (by rfl) T.z_len (by decide +kernel) (pa_cons (pv 1) pa_nil)) (pe_glob (v := .int 4) rfl T.c_MAX_RINGS ⟨_, rfl⟩)))))) (pss_one (ps_raise rfl (takes_of rfl rfl rfl rfl) (pmk_oex T.ox_InvalidTable T.i_InvalidTable T.ti_InvalidTable (ok_InvalidTable_init T) (hr.mono (by decide)) T.b_InvalidTable_init .nil pass0 rfl T.m_InvalidTable (pa_cons (pv 1) pa_nil)))) pss_nil) (pss_cons (ps_if (pt_not (pt_val (pe_callB (cr_all rfl) (by rfl) T.z_all (by decide +kernel) (pa_cons (pe_lc (own := [("size", 2)]) (g := (gName 2)) rfl sc_Table_init.nd (pi_seq (pv 1)) (blkOk_by (N := N_Table_init) (sc := defScope s_Table_init) (by decide +kernel)) (fun _ _ _ _ _ => (pg_name (i := 2) sc_Table_init.nd rfl (Or.inl rfl))) (fun _ _ _ _ _ => pts_nil) (fun _ _ _ _ _ => (pe_call (ok_is_at_least T) hr rfl T.m_is_at_least T.F_is_at_least.kp T.b_is_at_least .nil pass0 (pa_cons (pv 2) (pa_cons pe_int pa_nil))))) pa_nil)))) (pss_one (ps_raise rfl (takes_of rfl rfl rfl rfl) (pmk_oex T.ox_InvalidTable T.i_InvalidTable T.ti_InvalidTable (ok_InvalidTable_init T) (hr.mono (by decide)) T.b_InvalidTable_init .nil pass0 rfl T.m_InvalidTable (pa_cons (pv 1) pa_nil)))) pss_nil) (pss_one (ps_fld (pv 0) (pe_callTy call_tuple_of (by rfl) T.z_tuple (by decide +kernel) (pa_cons (pv 1) pa_nil)) rfl)))), ?_⟩
    refine ⟨_, rfl, slen rfl, ?_⟩
    (intro y ny; generalize hGy : upd _ y _ = H1; have eH1 := exG hGy ny; have hy := atG hGy; clear hGy)
    have ht1 := ht.mono eH1
    cases od with
    | none =>
      obtain ⟨ty, hty, hk⟩ := NoSeq.ty (K := K) ht1
      refine ⟨_, y, _, _, _, false, rfl, hy, .cons (.ty _) (.cons (.ty _) .nil), hty, hk, _, rfl, iteT ?_⟩
      refine itt rfl ?_
      refine ⟨_, rfl, by show 1 ≤ 1000; decide, fun ea na => ?_⟩
      exact exc_made na fun dd H4 e4 hd => kE dd H4 (ext eH1 e4) hd
    | some ds =>
      have lb := le ds rfl
      obtain ⟨⟨b, q⟩, xs, rfl, q1, all⟩ := ht1
      have lxs := all.len
      refine ⟨_, y, _, _, _, true, rfl, hy, .cons (.ty _) (.cons (.ty _) .nil), q1.ty, kit_seq b, _, rfl, iteF ?_⟩
      by_cases l1 : 1 ≤ ds.length
      rotate_left
      · refine ⟨_, rfl, q, _, rfl, sq_or q1, _, _, rfl, rfl, _, rfl, itf (decide_eq_false (by rw [lxs]; omega)) ?_⟩
        refine ⟨_, rfl, itt rfl ?_⟩
        exact ⟨_, rfl, by show 1 ≤ 1000; decide, fun ea na => exc_made na fun dd H4 e4 hd => kE dd H4 (ext eH1 e4) hd⟩
      refine ⟨_, rfl, q, _, rfl, sq_or q1, _, _, rfl, rfl, _, rfl, itt (decide_eq_true (by rw [lxs]; omega)) ?_⟩
      by_cases l4 : ds.length ≤ 4
      rotate_left
      · refine ⟨_, _, rfl, rfl, _, rfl, itt ?_ ?_⟩
        · rw [lxs, decide_eq_false (by omega)]
          rfl
        exact ⟨_, rfl, by show 1 ≤ 1000; decide, fun ea na => exc_made na fun dd H4 e4 hd => kE dd H4 (ext eH1 e4) hd⟩
      refine ⟨_, _, rfl, rfl, _, rfl, itf ?_ ?_⟩
      · rw [lxs, decide_eq_true (by omega)]
        rfl
      have alls : (ds.map fun d => atLeast (intD d) 1).all id = false := by
        have bad : (!(decide (1 ≤ ds.length ∧ ds.length ≤ 4) && (ds.map fun d => atLeast (intD d) 1).all id)) = true := bad
        rw [decide_eq_true ⟨l1, l4⟩, Bool.true_and] at bad
        cases z : (ds.map fun d => atLeast (intD d) 1).all id with
        | false => rfl
        | true =>
          rw [z] at bad
          cases bad
      dsimp only [tNext]
      refine ⟨_, rfl, (b, q), rfl, ⟨_, q1.sq⟩, fun D hD => ?_⟩
      refine lc_vals walk_seq ((ds.map fun d => atLeast (intD d) 1).map V.bl) (by rw [List.length_map, List.length_map, lxs]) (by omega) hD (fun H3 e => (q1.mono e).sq) ?_ gmono_name ?_
      · intro i x H3 H4 R hi e yy kk
        obtain ⟨rfl, hx⟩ := yy
        obtain ⟨d, hd, qd⟩ := (all.mono e).get hx
        exact ⟨rfl, _, rfl, _, intD d, 1, rfl, qd.isI, kk _ _ exr (by simp [hd])⟩
      · intro H3 e hD3
        refine ⟨D, _, rfl, SqL.of hD3, _, rfl, itt (by rw [alls]; rfl) ?_⟩
        exact ⟨_, rfl, by show 1 ≤ 1000; decide, fun ea na => exc_made na fun dd H4 e4 hd => kE dd H4 (ext eH1 (ext e e4)) hd⟩
end

section
variable {P : Program} {w : World} {K : PySem.W.Frag} {mg : Str → Option Value} {base : Heap}
def spX_require_call (K : PySem.W.Frag) (C CX : Addr) : Sp := fun vs H Q E => ∃ (a : Addr) (x : V) (ns : List Int) (ot : Option (List (Option Int))), vs = [.ref a, x] ∧ TabAt C H a ns ∧ TupA K H x ot ∧ (isCallO ns ot = true → ∀ H2, Ex H H2 → Q .non H2) ∧ (isCallO ns ot = false → Rai E H CX "call" x)
theorem okX_require_call (T : TX K mg) : FnOk P w K mg base (L2.CX P w) 3 T.f_require_call T.fd_require_call ["table", "call"] (spX_require_call K T.C_Table T.C_InvalidCall) := by
  refine T.F_require_call.okX sc_require_call (fun vs H Q E h => ?_) (fun cdv A outer s H vs Q E hr h => ?_)
  · obtain ⟨a, x, ns, ot, rfl, _⟩ := h
    rfl
  · obtain ⟨a, x, ns, ot, rfl, ht, hx, k1, k2⟩ := h
    refine ⟨_, (pss_one (ps_if (pt_not (pt_val (pe_meth (pv 0) T.cl_Table T.me_Table_is_call (ok_Table_is_call T) hr T.b_Table_is_call .nil pass0 (pa_cons (pv 1) pa_nil)))) (pss_one (ps_raise rfl (takes_of rfl rfl rfl rfl) (pmk_oex T.ox_InvalidCall T.i_InvalidCall T.ti_InvalidCall (ok_InvalidCall_init T) (hr.mono (by decide)) T.b_InvalidCall_init .nil pass0 rfl T.m_InvalidCall (pa_cons (pv 1) pa_nil)))) pss_nil)), ?_⟩
    obtain ⟨dx, t, h1, h2⟩ := id ht
    refine ⟨_, rfl, a, dx, _, rfl, h1, rfl, _, rfl, a, x, ns, ot, rfl, ht, hx, fun H2 e => ?_⟩
    cases hb : isCallO ns ot with
    | true => exact ⟨_, rfl, itf rfl (k1 hb _ e)⟩
    | false =>
      refine ⟨_, rfl, itt rfl ?_⟩
      refine ⟨_, rfl, by show 1 ≤ 1000; decide, fun ea na => ?_⟩
      exact exc_made na fun d H4 e4 hd => k2 hb d H4 (ext e e4) hd
/-- a seat and a call of any kind: the error that is due first, or what is done with them -/
structure SeatCall (K : PySem.W.Frag) (C CS CC : Addr) (H : Hp) (E : XK) (a : Addr) (x y : V) (ns : List Int) (ot oc : Option (List (Option Int))) (ok : Prop) : Prop where
  tab : TabAt C H a ns
  sz : SzOk ns
  hx : TupA K H x ot
  hy : ∀ H2, Ex H H2 → TupA K H2 y oc
  es : isSeatO ns ot = false → Rai E H CS "seat" x
  ec : isSeatO ns ot = true → isCallO ns oc = false → Rai E H CC "call" y
  go : isSeatO ns ot = true → isCallO ns oc = true → ok
def spX_Table_moves (K : PySem.W.Frag) (C CS CC : Addr) : Sp := fun vs H Q E => ∃ (a : Addr) (x y : V) (ns : List Int) (ot oc : Option (List (Option Int))), vs = [.ref a, x, y] ∧ SeatCall K C CS CC H E a x y ns ot oc
  (∃ (s c : Addr) (ps cs : List Int), x = .ref s ∧ y = .ref c ∧ H s = some (.tup (ps.map V.int)) ∧ H c = some (.tup (cs.map V.int)) ∧ SeatOk ns ps ∧ cs.length = ns.length ∧ ∀ H2 q f b, Ex H H2 → H2 q = some (.tup [.ref f, .ref b]) → Q (.ref q) H2)
theorem okX_Table_moves (T : TX K mg) : FnOk P w K mg base (L2.CX P w) 5 T.f_Table_moves T.fd_Table_moves ["self", "seat", "call"] (spX_Table_moves K T.C_Table T.C_InvalidSeat T.C_InvalidCall) := by
  refine T.F_Table_moves.okX sc_Table_moves (fun vs H Q E h => ?_) (fun cdv A outer s H vs Q E hr h => ?_)
  · obtain ⟨a, x, y, ns, ot, oc, rfl, _⟩ := h
    rfl
  · obtain ⟨a, x, y, ns, ot, oc, rfl, sc⟩ := h
    have l4 := sc.sz.le
    refine ⟨_, (pss_cons (ps_expr (pe_call (okX_require_seat T) hr rfl T.m_require_seat T.F_require_seat.kp T.b_require_seat .nil (passes_call (takes_of rfl rfl rfl rfl) (fun _ _ _ _ h => h)) (pa_cons (pv 0) (pa_cons (pv 1) pa_nil)))) (pss_cons (ps_expr (pe_call (okX_require_call T) (hr.mono (by decide)) rfl T.m_require_call T.F_require_call.kp T.b_require_call .nil (passes_call (takes_of rfl rfl rfl rfl) (fun _ _ _ _ h => h)) (pa_cons (pv 0) (pa_cons (pv 2) pa_nil)))) (pss_one (ps_ret (pe_tup (pa_cons (pe_meth (pv 0) T.cl_Table T.me_Table_shifted (ok_Table_shifted T) (hr.mono (by decide)) T.b_Table_shifted .nil pass0 (pa_cons (pv 1) (pa_cons (pv 2) (pa_cons pe_int pa_nil)))) (pa_cons (pe_meth (pv 0) T.cl_Table T.me_Table_shifted (ok_Table_shifted T) (hr.mono (by decide)) T.b_Table_shifted .nil pass0 (pa_cons (pv 1) (pa_cons (pv 2) (pa_cons (pe_un un_neg pe_int) pa_nil)))) pa_nil))))))), ?_⟩
    refine ⟨_, rfl, _, rfl, a, x, ns, ot, rfl, sc.tab, l4, sc.hx, fun is H1 e1 => ?_, sc.es⟩
    refine ⟨_, rfl, _, rfl, a, y, ns, oc, rfl, sc.tab.mono e1, sc.hy _ e1, fun ic H2 e2 => ?_, fun ic => (sc.ec is ic).mono e1⟩
    obtain ⟨s, c, ps, cs, rfl, rfl, hs, hc, sk, lc, k⟩ := sc.go is ic
    have e12 : Ex H H2 := ext e1 e2
    have lp := sk.len
    obtain ⟨dx, t, g1, g2⟩ := sc.tab.mono e12
    refine ⟨_, rfl, a, dx, _, rfl, g1, rfl, _, rfl, _, rfl, a, s, c, 1, ns, ps, cs, rfl, ⟨dx, t, g1, g2⟩, sc.sz, e12 _ _ hs, e12 _ _ hc, lp, lc, .inl rfl, fun H3 f e3 nf hf => ?_⟩
    have e13 : Ex H H3 := ext e12 e3
    refine ⟨_, rfl, a, dx, _, rfl, e3 _ _ g1, rfl, _, rfl, _, rfl, _, rfl, a, s, c, -1, ns, ps, cs, rfl, ⟨dx, t, e3 _ _ g1, e3 _ _ g2⟩, sc.sz, e13 _ _ hs, e13 _ _ hc, lp, lc, .inr rfl, fun H4 b e4 nb hb => ?_⟩
    refine ⟨by show 2 ≤ sizeLine; decide, fun q hq => ?_⟩
    exact k _ q f b (ext e13 (ext e4 (exn hq))) upd_same
def spX_Table_step (K : PySem.W.Frag) (C CS CC CD : Addr) : Sp := fun vs H Q E => ∃ (a : Addr) (x y z : V) (ns : List Int) (ot oc : Option (List (Option Int))) (oz : Option Str), vs = [.ref a, x, y, z] ∧ (∀ H2, Ex H H2 → StrA K H2 z oz) ∧ SeatCall K C CS CC H E a x y ns ot oc
  (∃ (s c : Addr) (ps cs : List Int), x = .ref s ∧ y = .ref c ∧ H s = some (.tup (ps.map V.int)) ∧ H c = some (.tup (cs.map V.int)) ∧ SeatOk ns ps ∧ cs.length = ns.length ∧ (isDirO oz = false → Rai E H CD "direction" z) ∧ (isDirO oz = true → ∃ bk : Bool, z = .str (if bk = true then "backward" else "forward") ∧ ∀ v H2, Ex H H2 → Q v H2))
theorem okX_Table_step (T : TX K mg) : FnOk P w K mg base (L2.CX P w) 6 T.f_Table_step T.fd_Table_step ["self", "seat", "call", "direction"] (spX_Table_step K T.C_Table T.C_InvalidSeat T.C_InvalidCall T.C_InvalidDirection) := by
  refine T.F_Table_step.okX sc_Table_step (fun vs H Q E h => ?_) (fun cdv A outer s H vs Q E hr h => ?_)
  · obtain ⟨a, x, y, z, ns, ot, oc, oz, rfl, _⟩ := h
    rfl
  · obtain ⟨a, x, y, z, ns, ot, oc, oz, rfl, hz, sc⟩ := h
    refine ⟨_, (pss_cons (ps_set (i := 4) sc_Table_step.nd rfl (Or.inl rfl) (pe_meth (pv 0) T.cl_Table T.me_Table_moves (okX_Table_moves T) hr T.b_Table_moves .nil (passes_call (takes_of rfl rfl rfl rfl) (fun _ _ _ _ h => h)) (pa_cons (pv 1) (pa_cons (pv 2) pa_nil)))) (pss_cons (ps_if (pt_not (pt_val (pe_call (ok_is_direction T) (hr.mono (by decide)) rfl T.m_is_direction T.F_is_direction.kp T.b_is_direction .nil pass0 (pa_cons (pv 3) pa_nil)))) (pss_one (ps_raise rfl (takes_of rfl rfl rfl rfl) (pmk_oex T.ox_InvalidDirection T.i_InvalidDirection T.ti_InvalidDirection (ok_InvalidDirection_init T) (hr.mono (by decide)) T.b_InvalidDirection_init .nil pass0 rfl T.m_InvalidDirection (pa_cons (pv 3) pa_nil)))) pss_nil) (pss_one (ps_ret (pe_ix ix_tup (pv 4) (pe_callTy call_int1 (by rfl) T.z_int (by decide +kernel) (pa_cons (pe_cmpR op_eq (pv 3) pe_str (nomark _)) pa_nil)) (fun _ _ => rfl)))))), ?_⟩
    obtain ⟨dx, t, g1, g2⟩ := id sc.tab
    refine ⟨_, rfl, a, dx, _, rfl, g1, rfl, _, rfl, _, rfl, a, x, y, ns, ot, oc, rfl, ⟨sc.tab, sc.sz, sc.hx, sc.hy, sc.es, sc.ec, fun is ic => ?_⟩⟩
    obtain ⟨s, c, ps, cs, rfl, rfl, hs, hc, sk, lc, kE, kQ⟩ := sc.go is ic
    refine ⟨s, c, ps, cs, rfl, rfl, hs, hc, sk, lc, fun H1 q f b e1 hq => ?_⟩
    refine ⟨_, rfl, _, oz, rfl, hz _ e1, fun H2 e2 => ⟨_, rfl, ?_⟩⟩
    cases di : isDirO oz with
    | false =>
      refine itt rfl ?_
      refine ⟨_, rfl, by show 1 ≤ 1000; decide, fun ea na => ?_⟩
      exact exc_made na fun d H4 e4 hd => kE di d H4 (ext e1 (ext e2 e4)) hd
    | true =>
      refine itf rfl ?_
      obtain ⟨bk, rfl, k⟩ := kQ di
      cases bk with
      | false =>
        refine ⟨_, rfl, _, rfl, rfl, .inr ⟨_, rfl, q, _, _, _, rfl, rfl, SqT.of (e2 _ _ hq), ?_, k (.ref f) _ (ext e1 e2)⟩⟩
        have ei : (if decide (V.str (if false = true then "backward" else "forward") = V.str "backward") = true then 1 else 0 : Int) = 0 := by decide +kernel
        rw [ei]
        rfl
      | true =>
        refine ⟨_, rfl, _, rfl, rfl, .inr ⟨_, rfl, q, _, _, _, rfl, rfl, SqT.of (e2 _ _ hq), ?_, k (.ref b) _ (ext e1 e2)⟩⟩
        have ei : (if decide (V.str (if true = true then "backward" else "forward") = V.str "backward") = true then 1 else 0 : Int) = 1 := by decide +kernel
        rw [ei]
        rfl
def spX_seat (K : PySem.W.Frag) (C CS : Addr) : Sp := fun vs H Q E => ∃ (a : Addr) (x : V) (ns : List Int) (ot : Option (List (Option Int))), vs = [.ref a, x] ∧ TabAt C H a ns ∧ ns.length ≤ 4 ∧ TupA K H x ot ∧ isSeatO ns ot = false ∧ Rai E H CS "seat" x
theorem okX_Table_order (T : TX K mg) : FnOk P w K mg base (L2.CX P w) 5 T.f_Table_order T.fd_Table_order ["self", "seat"] (spX_seat K T.C_Table T.C_InvalidSeat) := by
  refine T.F_Table_order.okX sc_Table_order (fun vs H Q E h => ?_) (fun cdv A outer s H vs Q E hr h => ?_)
  · obtain ⟨a, x, ns, ot, rfl, _⟩ := h
    rfl
  · obtain ⟨a, x, ns, ot, rfl, tab, l4, hx, no, kE⟩ := h
    refine ⟨_, (pss_cons (ps_expr (pe_call (okX_require_seat T) hr rfl T.m_require_seat T.F_require_seat.kp T.b_require_seat .nil (passes_call (takes_of rfl rfl rfl rfl) (fun _ _ _ _ h => h)) (pa_cons (pv 0) (pa_cons (pv 1) pa_nil)))) (pss_cons (ps_set (i := 2) sc_Table_order.nd rfl (Or.inl rfl) pe_int) (pss_cons (ps_for (passes_of rfl) rfl (CZ.pi_z2s (fl := [true, true]) rfl (by rfl) T.z_zip (pa_cons (pv 1) (pa_cons (pe_fld (pv 0) rfl) pa_nil))) (pg_tup rfl (pgs_cons (pg_name (i := 3) sc_Table_order.nd rfl (Or.inl rfl)) (pgs_cons (pg_name (i := 4) sc_Table_order.nd rfl (Or.inl rfl)) pgs_nil))) (pss_cons (ps_set (i := 5) sc_Table_order.nd rfl (Or.inl rfl) (pe_op op_fdivW (pv 4) (pe_call (ok_greatest_common_divisor T) (hr.mono (by decide)) rfl T.m_greatest_common_divisor T.F_greatest_common_divisor.kp T.b_greatest_common_divisor .nil pass0 (pa_cons (pv 3) (pa_cons (pv 4) pa_nil))))) (pss_one (ps_set (i := 2) sc_Table_order.nd rfl (Or.inl rfl) (pe_op op_mulI (pe_op op_fdivW (pv 2) (pe_call (ok_greatest_common_divisor T) (hr.mono (by decide)) rfl T.m_greatest_common_divisor T.F_greatest_common_divisor.kp T.b_greatest_common_divisor .nil pass0 (pa_cons (pv 2) (pa_cons (pv 5) pa_nil)))) (pv 5)))))) (pss_one (ps_ret (pv 2)))))), ?_⟩
    exact ⟨_, rfl, _, rfl, a, x, ns, ot, rfl, tab, l4, hx, (fun z => by rw [no] at z; cases z), fun _ => kE⟩
theorem okX_Table_halves (T : TX K mg) : FnOk P w K mg base (L2.CX P w) 5 T.f_Table_halves T.fd_Table_halves ["self", "seat"] (spX_seat K T.C_Table T.C_InvalidSeat) := by
  refine T.F_Table_halves.okX sc_Table_halves (fun vs H Q E h => ?_) (fun cdv A outer s H vs Q E hr h => ?_)
  · obtain ⟨a, x, ns, ot, rfl, _⟩ := h
    rfl
  · obtain ⟨a, x, ns, ot, rfl, tab, l4, hx, no, kE⟩ := h
    refine ⟨_, (pss_cons (ps_expr (pe_call (okX_require_seat T) hr rfl T.m_require_seat T.F_require_seat.kp T.b_require_seat .nil (passes_call (takes_of rfl rfl rfl rfl) (fun _ _ _ _ h => h)) (pa_cons (pv 0) (pa_cons (pv 1) pa_nil)))) (pss_cons (ps_set (i := 2) sc_Table_halves.nd rfl (Or.inl rfl) (pe_lst (pa_cons (pe_tup pa_nil) pa_nil))) (pss_cons (ps_for (passes_of rfl) rfl (CZ.pi_z2s (fl := [true, true]) rfl (by rfl) T.z_zip (pa_cons (pv 1) (pa_cons (pe_fld (pv 0) rfl) pa_nil))) (pg_tup rfl (pgs_cons (pg_name (i := 3) sc_Table_halves.nd rfl (Or.inr rfl)) (pgs_cons (pg_name (i := 4) sc_Table_halves.nd rfl (Or.inr rfl)) pgs_nil))) (pss_one (ps_setLc2 (wi1 := iList K _) (own := [("start", 5), ("half", 6)]) (g := (gName 5)) (g1 := (gName 6)) (vs1 := [6]) (i := 2) rfl sc_Table_halves.nd rfl rfl (sw_true rfl rfl rfl (by decide +kernel)) (pi_list (pv 2)) (blkOk_by (N := N_Table_halves) (sc := defScope s_Table_halves) (by decide +kernel)) (by decide) (fun _ _ _ _ _ => (pg_name (i := 5) sc_Table_halves.nd rfl (Or.inl rfl))) (fun _ _ _ _ _ => pts_nil) (fun _ _ _ _ _ => (pi_list (pe_call (ok_half_places T) (hr.mono (by decide)) rfl T.m_half_places T.F_half_places.kp T.b_half_places .nil pass0 (pa_cons (pv 3) (pa_cons (pv 4) pa_nil))))) (fun _ _ _ _ _ => (pg_name (i := 6) sc_Table_halves.nd rfl (Or.inl rfl))) (fun _ _ _ _ _ => pts_nil) (fun _ _ _ _ _ => (pe_op (r := rCatA K) op_catA (pv 5) (pe_tup (pa_cons (pv 6) pa_nil))))))) (pss_one (ps_ret (pv 2)))))), ?_⟩
    exact ⟨_, rfl, _, rfl, a, x, ns, ot, rfl, tab, l4, hx, (fun z => by rw [no] at z; cases z), fun _ => kE⟩
end

theorem at_ex {xs : List Int} {r : Int} (h0 : 0 ≤ r) (h1 : r < xs.length) : ∃ v, v ∈ xs ∧ atI (xs.map V.int) r = some (.int v) := by
  obtain ⟨j, rfl⟩ : ∃ j : Nat, r = (j : Int) := ⟨r.toNat, by omega⟩
  have hj : j < xs.length := by omega
  refine ⟨xs[j], List.getElem_mem hj, L2.atI_nat ?_⟩
  rw [List.getElem?_map, List.getElem?_eq_getElem hj]
  rfl
theorem pow2_pos (k : Nat) : (1 : Int) ≤ 2 ^ k := by
  have h : 0 < 2 ^ k := Nat.pow_pos (by decide)
  have e : ((2 ^ k : Nat) : Int) = (2 : Int) ^ k := by simp
  omega
theorem pow2_le {j k : Nat} (h : j ≤ k) : (2 : Int) ^ j ≤ 2 ^ k := by
  have h1 : 2 ^ j ≤ 2 ^ k := Nat.pow_le_pow_right (by decide) h
  have e1 : ((2 ^ j : Nat) : Int) = (2 : Int) ^ j := by simp
  have e2 : ((2 ^ k : Nat) : Int) = (2 : Int) ^ k := by simp
  omega
theorem shl_one {r : Int} (h0 : 0 ≤ r) (h1 : r ≤ 1000) : CShl 1 r := by
  obtain ⟨j, rfl⟩ : ∃ j : Nat, r = (j : Int) := ⟨r.toNat, by omega⟩
  exact shl_ok (n := 1) (by decide) (by omega)

section
variable {P : Program} {w : World} {K : PySem.W.Frag} {mg : Str → Option Value} {base : Heap}
def sp_law_big : Sp := fun vs H Q _ => ∃ (s : Addr), vs = [.ref s] ∧ Src H s ∧ ∀ (r : Int) H2, 1 ≤ r → r ≤ 10 ^ 27 → XB s H H2 → Src H2 s → Q (.int r) H2
theorem ok_law_big (T : TX K mg) : FnOk P w K mg base CX0 3 T.f_law_big T.fd_law_big ["_law_source_here"] sp_law_big := by
  refine T.F_law_big.ok sc_law_big (fun vs H Q E h => ?_) (fun cdv A outer s H vs Q E hr h => ?_)
  · obtain ⟨s, rfl, _⟩ := h
    rfl
  · obtain ⟨s, rfl, hs, k⟩ := h
    refine ⟨_, (pss_cons (ps_set (i := 1) sc_law_big.nd rfl (Or.inl rfl) pe_int) (pss_cons (ps_for PassesOwn.never rfl (pi_range1 rfl T.z_range (pa_cons pe_int pa_nil)) (pg_name (i := 2) sc_law_big.nd rfl (Or.inl rfl)) (pss_one (ps_set (i := 1) sc_law_big.nd rfl (Or.inl rfl) (pe_op op_add (pe_op op_mulI (pv 1) (pe_op op_pow pe_int pe_int)) (pe_call (ok_law_take T) hr rfl T.m_law_take T.F_law_take.kp T.b_law_take .nil pass0 (pa_cons (pv 0) (pa_cons (pe_op op_pow pe_int pe_int) pa_nil))))))) (pss_one (ps_ret (pe_op op_add pe_int (pv 1)))))), ?_⟩
    refine ⟨3, rfl, by decide, by decide, ?_⟩
    refine for_it walk_range (fun i σ H2 => ∃ (f : Int) (y : Option V), σ = [some (.ref s), some (.int f), y] ∧ 0 ≤ f ∧ f < (10 : Int) ^ (9 * i) ∧ XB s H H2 ∧ Src H2 s) ⟨0, none, rfl, by decide, by decide, XB.refl, hs⟩ (fun _ _ _ _ _ => True.intro) ?_ ?_
    · rintro i x σ H2 H3 hi ⟨f, y, rfl, f0, f1, xb, src⟩ ⟨rfl, rfl⟩
      refine ⟨_, rfl, _, _, rfl, rfl, ⟨by decide, by decide, by decide⟩, _, _, rfl, rfl, mul_ok (.inr (by decide)), _, rfl, _, _, rfl, rfl, ⟨by decide, by decide, by decide⟩, s, _, rfl, src, by decide, by decide +kernel, fun r H4 r0 r1 xb4 src4 => ?_⟩
      refine ⟨_, _, rfl, rfl, ?_⟩
      have e9 : (10 : Int) ^ (9 : Int).toNat = 1000000000 := by decide
      rw [e9] at r1 ⊢
      refine ⟨_, _, rfl, ?_, ?_, xb.trans xb4, src4⟩
      · omega
      · have e : (10 : Int) ^ (9 * (i + 1)) = 10 ^ (9 * i) * 1000000000 := by
          rw [show 9 * (i + 1) = 9 * i + 9 by omega, Int.pow_add]
          rfl
        rw [e]
        omega
    · rintro σ H2 ⟨f, y, rfl, f0, f1, xb, src⟩
      have f2 : f < 10 ^ 27 := f1
      exact ⟨_, rfl, _, _, rfl, rfl, k _ _ (by omega) (by omega) xb src⟩
def sp_law_rings : Sp := fun vs H Q _ => ∃ (s : Addr), vs = [.ref s] ∧ Src H s ∧ ∀ (l : Addr) (ns : List Int) H2, H l = none → H2 l = some (.lst (ns.map V.int)) → SzOk ns → (∀ n ∈ ns, n ≤ 10 ^ 27) → XB s H H2 → Src H2 s → Q (.ref l) H2
theorem ok_law_rings (T : TX K mg) : FnOk P w K mg base CX0 4 T.f_law_rings T.fd_law_rings ["_law_source_here"] sp_law_rings := by
  refine T.F_law_rings.ok sc_law_rings (fun vs H Q E h => ?_) (fun cdv A outer s H vs Q E hr h => ?_)
  · obtain ⟨s, rfl, _⟩ := h
    rfl
  · obtain ⟨s, rfl, hs, k⟩ := h
    refine ⟨_, (pss_cons (ps_set (i := 1) sc_law_rings.nd rfl (Or.inl rfl) (pe_lst (pa_cons pe_int (pa_cons pe_int (pa_cons pe_int (pa_cons pe_int (pa_cons pe_int (pa_cons pe_int (pa_cons pe_int (pa_cons pe_int (pa_cons pe_int (pa_cons pe_int pa_nil)))))))))))) (pss_cons (ps_set (i := 2) sc_law_rings.nd rfl (Or.inl rfl) (pe_lst pa_nil)) (pss_cons (ps_for PassesOwn.never rfl (pi_range1 rfl T.z_range (pa_cons (pe_op op_add pe_int (pe_call (ok_law_take T) (hr.mono (by decide)) rfl T.m_law_take T.F_law_take.kp T.b_law_take .nil pass0 (pa_cons (pv 0) (pa_cons pe_int pa_nil)))) pa_nil)) (pg_name (i := 3) sc_law_rings.nd rfl (Or.inl rfl)) (pss_cons (ps_set (i := 4) sc_law_rings.nd rfl (Or.inl rfl) (pe_lst (pa_cons (pe_ix ix_list (pv 1) (pe_call (ok_law_take T) (hr.mono (by decide)) rfl T.m_law_take T.F_law_take.kp T.b_law_take .nil pass0 (pa_cons (pv 0) (pa_cons pe_int pa_nil))) (fun _ _ => rfl)) (pa_cons (pe_op op_shlW pe_int (pe_call (ok_law_take T) (hr.mono (by decide)) rfl T.m_law_take T.F_law_take.kp T.b_law_take .nil pass0 (pa_cons (pv 0) (pa_cons pe_int pa_nil)))) (pa_cons (pe_call (ok_law_big T) hr rfl T.m_law_big T.F_law_big.kp T.b_law_big .nil pass0 (pa_cons (pv 0) pa_nil)) pa_nil))))) (pss_one (ps_expr (pe_bm PySem.F.plainAttrs_list PySem.F.slot_list_append PySem.F.type_list_append mt_append (pv 2) (pa_cons (pe_ix ix_list (pv 4) (pe_ix ix_list (pe_lst (pa_cons pe_int (pa_cons pe_int (pa_cons pe_int (pa_cons pe_int (pa_cons pe_int pa_nil)))))) (pe_call (ok_law_take T) (hr.mono (by decide)) rfl T.m_law_take T.F_law_take.kp T.b_law_take .nil pass0 (pa_cons (pv 0) (pa_cons pe_int pa_nil))) (fun _ _ => rfl)) (fun _ _ => rfl)) pa_nil)))))) (pss_one (ps_ret (pv 2)))))), ?_⟩
    refine ⟨by show 10 ≤ sizeLine; decide, fun sm hsm => ⟨Nat.zero_le _, fun l hl => ?_⟩⟩
    have nsm : sm ≠ s := hs.ne hsm
    have hs1 := hs.new (o := .lst [.int 1, .int 2, .int 3, .int 4, .int 5, .int 6, .int 8, .int 9, .int 12, .int 15]) hsm
    have nl : l ≠ s := hs1.ne hl
    have nls : sm ≠ l := ne_of_none upd_same hl
    have hl0 : H l = none := by rw [upd_ne nls.symm] at hl; exact hl
    have hs2 := hs1.new (o := .lst []) hl
    refine ⟨_, rfl, s, 4, rfl, hs2, by decide, by decide +kernel, fun r H1 r0 r1 xb1 src1 => ?_⟩
    refine ⟨_, _, rfl, rfl, 1 + r, rfl, by omega, by omega, ?_⟩
    have base1 : XB s H H1 := fun c o n z => xb1 c o n (by rw [upd_ne (ne_of_none z hl0), upd_ne (ne_of_none z hsm)]; exact z)
    refine for_it walk_range (fun i σ H2 => ∃ (ns : List Int) (y4 y5 : Option V), σ = [some (.ref s), some (.ref sm), some (.ref l), y4, y5] ∧ H2 sm = some (.lst (([1, 2, 3, 4, 5, 6, 8, 9, 12, 15] : List Int).map V.int)) ∧ H2 l = some (.lst (ns.map V.int)) ∧ ns.length = i ∧ (∀ n ∈ ns, 1 ≤ n ∧ n ≤ 10 ^ 27) ∧ XB s H H2 ∧ Src H2 s)
      ⟨[], none, none, rfl, xb1 _ _ nsm (by rw [upd_ne nls, upd_same]; rfl), xb1 _ _ nl upd_same, rfl, (fun _ h => nomatch h), base1, src1⟩ (fun _ _ _ _ _ => True.intro) ?_ ?_
    · rintro i x σ H2 H3 hi ⟨ns, y4, y5, rfl, hm2, hl2, len, inb, xb, src⟩ ⟨rfl, rfl⟩
      refine ⟨_, rfl, _, rfl, s, 10, rfl, src, by decide, by decide +kernel, fun q H4 q0 q1 xb4 src4 => ?_⟩
      obtain ⟨v1, m1, g1⟩ := at_ex (xs := [1, 2, 3, 4, 5, 6, 8, 9, 12, 15]) q0 q1
      refine ⟨sm, _, _, _, rfl, rfl, SqL.of (xb4 _ _ nsm hm2), g1, ?_⟩
      refine ⟨_, rfl, s, 70, rfl, src4, by decide, by decide +kernel, fun q2 H5 q20 q21 xb5 src5 => ?_⟩
      refine ⟨_, _, rfl, rfl, shl_one q20 (by omega), ?_⟩
      refine ⟨_, rfl, s, rfl, src5, fun q3 H6 q30 q31 xb6 src6 => ?_⟩
      refine ⟨by show 3 ≤ sizeLine; decide, fun pk hpk => ?_⟩
      have npk : pk ≠ s := src6.ne hpk
      have l6 := xb6 _ _ nl (xb5 _ _ nl (xb4 _ _ nl hl2))
      have s6 := xb6 _ _ nsm (xb5 _ _ nsm (xb4 _ _ nsm hm2))
      have nlp : l ≠ pk := ne_of_none l6 hpk
      have nsp : sm ≠ pk := ne_of_none s6 hpk
      have xb06 : XB s H H6 := ((xb.trans xb4).trans xb5).trans xb6
      refine ⟨_, rfl, .inl ⟨rfl, _, SqL.of (by rw [upd_ne nlp]; exact l6)⟩, _, rfl, by show 5 ≤ sizeLine; decide, fun ix hix => ?_⟩
      have src7 := (src6.new (o := .lst [.int v1, .int (1 * 2 ^ q2.toNat), .int q3]) hpk)
      have nix : ix ≠ s := src7.ne hix
      have nlx : l ≠ ix := ne_of_none (by rw [upd_ne nlp]; exact l6) hix
      have nsx : sm ≠ ix := ne_of_none (by rw [upd_ne nsp]; exact s6) hix
      have npx : pk ≠ ix := ne_of_none upd_same hix
      refine ⟨_, rfl, s, 5, rfl, src7.new hix, by decide, by decide +kernel, fun q4 H8 q40 q41 xb8 src8 => ?_⟩
      obtain ⟨j, mj, gj⟩ := at_ex (xs := [0, 0, 0, 1, 2]) q40 q41
      refine ⟨ix, _, _, _, rfl, rfl, SqL.of (xb8 _ _ nix upd_same), gj, ?_⟩
      have j3 : 0 ≤ j ∧ j < 3 := by
        have : j = 0 ∨ j = 0 ∨ j = 0 ∨ j = 1 ∨ j = 2 := by simpa using mj
        omega
      obtain ⟨v, mv, gv⟩ := at_ex (xs := [v1, 1 * 2 ^ q2.toNat, q3]) j3.1 j3.2
      refine ⟨pk, _, _, _, rfl, rfl, SqL.of (xb8 _ _ npk (by rw [upd_ne npx, upd_same]; rfl)), gv, ?_⟩
      have l8 : H8 l = some (.lst (ns.map V.int)) := xb8 _ _ nl (by rw [upd_ne nlx, upd_ne nlp]; exact l6)
      have s8 : H8 sm = _ := xb8 _ _ nsm (by rw [upd_ne nsx, upd_ne nsp]; exact s6)
      have x8 : XB s H H8 := fun c o n z => by
        have z6 := xb06 c o n z
        have ncp : c ≠ pk := ne_of_none z6 hpk
        have ncx : c ≠ ix := ne_of_none (by rw [upd_ne ncp]; exact z6) hix
        exact xb8 c o n (by rw [upd_ne ncx, upd_ne ncp]; exact z6)
      refine ⟨l, _, _, rfl, rfl, l8, ?_, ?_⟩
      · rw [List.length_map, len]
        exact Nat.lt_of_lt_of_le (show i < 4 by omega) (by decide)
      · have vb : 1 ≤ v ∧ v ≤ 10 ^ 27 := by
          have : v = v1 ∨ v = 1 * 2 ^ q2.toNat ∨ v = q3 := by simpa using mv
          rcases this with e | e | e
          · rw [e]
            have : v1 = 1 ∨ v1 = 2 ∨ v1 = 3 ∨ v1 = 4 ∨ v1 = 5 ∨ v1 = 6 ∨ v1 = 8 ∨ v1 = 9 ∨ v1 = 12 ∨ v1 = 15 := by simpa using m1
            omega
          · rw [e]
            have h1 := pow2_pos q2.toNat
            have h2 : (2 : Int) ^ q2.toNat ≤ 2 ^ 70 := pow2_le (by omega)
            have h3 : (2 : Int) ^ 70 ≤ 10 ^ 27 := by decide
            omega
          · rw [e]
            exact ⟨q30, q31⟩
        refine ⟨ns ++ [v], _, _, rfl, ?_, ?_, ?_, ?_, ?_, ?_⟩
        · rw [upd_ne nls]; exact s8
        · rw [upd_same, List.map_append]; rfl
        · rw [List.length_append, len]; rfl
        · intro n hn
          rcases List.mem_append.mp hn with h | h
          · exact inb n h
          · rw [List.mem_singleton.mp h]; exact vb
        · intro c o n z
          rw [upd_ne (ne_of_none z hl0)]
          exact x8 c o n z
        · obtain ⟨a, b, c, z⟩ := src8
          exact ⟨a, b, c, by rw [upd_ne nl.symm]; exact z⟩
    · rintro σ H2 ⟨ns, y4, y5, rfl, hm2, hl2, len, inb, xb, src⟩
      refine ⟨_, rfl, k l ns H2 hl0 hl2 ⟨?_, ?_, fun n hn => (inb n hn).1⟩ (fun n hn => (inb n hn).2) xb src⟩
      · intro e
        rw [e] at len
        have : (0 : Nat) = (1 + r).toNat := len
        omega
      · omega
end

/-- the joining of ways behind an if: R is what is known of the heap there -/
theorem ifs_cut {c : TT} {t u : TS} {D : Ends} {σ : L2.St} {H : Hp} (R : Hp → Prop) (hR : ∀ H2, R H2 → D.nx σ H2) (h : ∀ N : L2.St → Hp → Prop, (∀ H2, R H2 → N σ H2) → tIfS c t u { D with nx := N } σ H) : tIfS c t u D σ H := h D.nx hR
def prodL (ns : List Int) : Int := ns.foldl (fun p n => p * n) 1
theorem prod_snoc (ns : List Int) (n : Int) : prodL (ns ++ [n]) = prodL ns * n := by
  unfold prodL
  rw [List.foldl_append]
  rfl
theorem fold_pos : ∀ {ns : List Int} {a B : Int}, (∀ n ∈ ns, 1 ≤ n ∧ n ≤ B) → 1 ≤ a → 1 ≤ ns.foldl (fun p n => p * n) a ∧ ns.foldl (fun p n => p * n) a ≤ a * B ^ ns.length
  | [], a, B, _, h => by simp; exact h
  | n :: ns, a, B, h, ha => by
    have hn := h n List.mem_cons_self
    have h1 : 1 ≤ a * n := by
      have := Int.mul_le_mul ha hn.1 (by omega) (by omega)
      omega
    obtain ⟨g1, g2⟩ := fold_pos (ns := ns) (a := a * n) (B := B) (fun m hm => h m (List.mem_cons_of_mem _ hm)) h1
    refine ⟨g1, Int.le_trans g2 ?_⟩
    rw [List.length_cons, Int.pow_succ]
    have hB : 0 ≤ B ^ ns.length := Int.le_of_lt (Int.pow_pos (by omega))
    have e1 : a * n * B ^ ns.length ≤ a * B * B ^ ns.length := Int.mul_le_mul_of_nonneg_right (Int.mul_le_mul_of_nonneg_left hn.2 (by omega)) hB
    have e2 : a * B * B ^ ns.length = a * (B ^ ns.length * B) := by rw [Int.mul_assoc, Int.mul_comm B]
    omega
theorem prod_take {ns : List Int} {i : Nat} {n : Int} (h : ns[i]? = some n) : prodL (ns.take (i + 1)) = prodL (ns.take i) * n := by
  rw [take_more h, prod_snoc]
theorem prod_ok {ns : List Int} (ok : SzOk ns) (hB : ∀ n ∈ ns, n ≤ 10 ^ 27) (i : Nat) : 1 ≤ prodL (ns.take i) ∧ (prodL (ns.take i)).natAbs < 2 ^ 400 := by
  have hl : (ns.take i).length ≤ 4 := by
    rw [List.length_take]
    exact Nat.le_trans (Nat.min_le_right _ _) ok.le
  obtain ⟨h1, h2⟩ := fold_pos (ns := ns.take i) (a := 1) (B := 10 ^ 27) (fun n hn => ⟨ok.one n (List.mem_of_mem_take hn), hB n (List.mem_of_mem_take hn)⟩) (by decide)
  refine ⟨h1, ?_⟩
  have h3 : prodL (ns.take i) ≤ 1 * (10 ^ 27) ^ (ns.take i).length := h2
  have h4 : ((10 : Int) ^ 27) ^ (ns.take i).length ≤ (10 ^ 27) ^ 4 := by
    have : (ns.take i).length = 0 ∨ (ns.take i).length = 1 ∨ (ns.take i).length = 2 ∨ (ns.take i).length = 3 ∨ (ns.take i).length = 4 := by omega
    rcases this with e | e | e | e | e <;> rw [e] <;> decide
  have h5 : ((10 : Int) ^ 27) ^ 4 < 2 ^ 400 := by decide
  have h6 : prodL (ns.take i) < 2 ^ 400 := by omega
  have h7 : ((prodL (ns.take i)).natAbs : Int) = prodL (ns.take i) := Int.natAbs_of_nonneg (by have : 1 ≤ prodL (ns.take i) := h1; omega)
  have h8 : ((2 ^ 400 : Nat) : Int) = (2 : Int) ^ 400 := by simp
  omega
theorem big_abs {n : Int} (h1 : 1 ≤ n) (h2 : n ≤ 10 ^ 27) : n.natAbs < 2 ^ 100 := by
  have h5 : (10 : Int) ^ 27 < 2 ^ 100 := by decide
  have h8 : ((2 ^ 100 : Nat) : Int) = (2 : Int) ^ 100 := by simp
  omega
theorem prod_mul {ns : List Int} (ok : SzOk ns) (hB : ∀ n ∈ ns, n ≤ 10 ^ 27) {i : Nat} {n : Int} (h : ns[i]? = some n) : IntMulOk (prodL (ns.take i)) n :=
  (wide_mul (prod_ok ok hB i).2 (big_abs (ok.one n (List.mem_of_getElem? h)) (hB n (List.mem_of_getElem? h))) (by decide) (by decide) (by decide)).ok
theorem place_ok {n m r : Int} (m1 : 1 ≤ m) (m3 : m ≤ n) (r0 : 0 ≤ r) (r1 : r < m) : 0 ≤ r * (n / m) ∧ r * (n / m) < n := by
  have q1 : 1 ≤ n / m := (Int.le_ediv_iff_mul_le (by omega)).mpr (by omega)
  have q2 : m * (n / m) ≤ n := Int.mul_ediv_self_le (by omega)
  refine ⟨Int.mul_nonneg r0 (by omega), ?_⟩
  have q3 : r * (n / m) ≤ (m - 1) * (n / m) := Int.mul_le_mul_of_nonneg_right (by omega) (by omega)
  have q4 : (m - 1) * (n / m) = m * (n / m) - n / m := by rw [Int.sub_mul, Int.one_mul]
  omega
theorem call_bound {n r r2 v : Int} (n1 : 1 ≤ n) (n2 : n ≤ 10 ^ 27) (r0 : 0 ≤ r) (r1 : r < 7) (h0 : 0 ≤ r2) (h1 : r2 < 10 ^ (9 : Int).toNat) (mv : v ∈ [r - 3, n / 2, (r - 3) * n + (r - 3), 0 - r2 * 10 ^ (20 : Int).toNat]) : v.natAbs < 2 ^ 100 := by
  have e9 : (10 : Int) ^ (9 : Int).toNat = 1000000000 := by decide
  have e20 : (10 : Int) ^ (20 : Int).toNat = 100000000000000000000 := by decide
  have e27 : (10 : Int) ^ 27 = 1000000000000000000000000000 := by decide
  have e2 : (2 : Nat) ^ 100 = 1267650600228229401496703205376 := by decide
  rw [e9] at h1
  rw [e20] at mv
  rw [e27] at n2
  rw [e2]
  simp only [List.mem_cons, List.not_mem_nil, or_false] at mv
  rcases mv with rfl | rfl | rfl | rfl
  · omega
  · omega
  · have : r = 0 ∨ r = 1 ∨ r = 2 ∨ r = 3 ∨ r = 4 ∨ r = 5 ∨ r = 6 := by omega
    rcases this with rfl | rfl | rfl | rfl | rfl | rfl | rfl <;> omega
  · omega
section
variable {P : Program} {w : World} {K : PySem.W.Frag} {mg : Str → Option Value} {base : Heap}
def sp_law_call : Sp := fun vs H Q _ => ∃ (s l : Addr) (ns : List Int), vs = [.ref s, .ref l] ∧ Src H s ∧ H l = some (.lst (ns.map V.int)) ∧ l ≠ s ∧ SzOk ns ∧
  ∀ (q : Addr) (cs : List Int) H2, H q = none → H2 q = some (.tup (cs.map V.int)) → cs.length = ns.length → ((∀ n ∈ ns, n ≤ 10 ^ 27) → ∀ c ∈ cs, c.natAbs < 2 ^ 100) → XB s H H2 → Src H2 s → Q (.ref q) H2
theorem ok_law_call (T : TX K mg) : FnOk P w K mg base CX0 3 T.f_law_call T.fd_law_call ["_law_source_here", "_law_sizes"] sp_law_call := by
  refine T.F_law_call.ok sc_law_call (fun vs H Q E h => ?_) (fun cdv A outer s H vs Q E hr h => ?_)
  · obtain ⟨s, l, ns, rfl, _⟩ := h
    rfl
  · obtain ⟨s, l, ns, rfl, hs, hl, nl, ok, k⟩ := h
    refine ⟨_, (pss_cons (ps_set (i := 2) sc_law_call.nd rfl (Or.inl rfl) (pe_lst pa_nil)) (pss_cons (ps_for PassesOwn.never rfl (pi_list (pv 1)) (pg_name (i := 3) sc_law_call.nd rfl (Or.inl rfl)) (pss_cons (ps_set (i := 4) sc_law_call.nd rfl (Or.inl rfl) (pe_op op_sub (pe_call (ok_law_take T) hr rfl T.m_law_take T.F_law_take.kp T.b_law_take .nil pass0 (pa_cons (pv 0) (pa_cons pe_int pa_nil))) pe_int)) (pss_cons (ps_set (i := 5) sc_law_call.nd rfl (Or.inl rfl) (pe_op op_sub pe_int (pe_op op_mulI (pe_call (ok_law_take T) hr rfl T.m_law_take T.F_law_take.kp T.b_law_take .nil pass0 (pa_cons (pv 0) (pa_cons (pe_op op_pow pe_int pe_int) pa_nil))) (pe_op op_pow pe_int pe_int)))) (pss_one (ps_expr (pe_bm PySem.F.plainAttrs_list PySem.F.slot_list_append PySem.F.type_list_append mt_append (pv 2) (pa_cons (pe_ix ix_list (pe_lst (pa_cons (pv 4) (pa_cons (pe_op op_fdivW (pv 3) pe_int) (pa_cons (pe_op op_add (pe_op op_mulI (pv 4) (pv 3)) (pv 4)) (pa_cons (pv 5) pa_nil))))) (pe_call (ok_law_take T) hr rfl T.m_law_take T.F_law_take.kp T.b_law_take .nil pass0 (pa_cons (pv 0) (pa_cons pe_int pa_nil))) (fun _ _ => rfl)) pa_nil))))))) (pss_one (ps_ret (pe_callTy call_tuple_of (by rfl) T.z_tuple (by decide +kernel) (pa_cons (pv 2) pa_nil)))))), ?_⟩
    refine ⟨Nat.zero_le _, fun D hD => ?_⟩
    have nD : D ≠ s := hs.ne hD
    have nDl : l ≠ D := ne_of_none hl hD
    refine ⟨_, rfl, l, rfl, ⟨_, SqL.of (exn hD _ _ hl)⟩, ?_⟩
    refine for_it (walk_list (xs := ns.map V.int)) (fun i σ H2 => ∃ (cs : List Int) (y3 y4 y5 : Option V), σ = [some (.ref s), some (.ref l), some (.ref D), y3, y4, y5] ∧ H2 D = some (.lst (cs.map V.int)) ∧ cs.length = i ∧ ((∀ n ∈ ns, n ≤ 10 ^ 27) → ∀ c ∈ cs, c.natAbs < 2 ^ 100) ∧ XB s H H2 ∧ Src H2 s) ⟨[], none, none, none, rfl, upd_same, rfl, fun _ _ z => (nomatch z), XB.of (exn hD), hs.new hD⟩ (fun i σ H2 _ ⟨cs, _, _, _, _, _, _, _, xb, _⟩ => SqL.of (xb _ _ nl hl)) ?_ ?_
    · rintro i x σ H2 H3 hi ⟨cs, y3, y4, y5, rfl, hD2, len, hb, xb, src⟩ ⟨rfl, hx⟩
      obtain ⟨n, hn, rfl⟩ := map_get hx
      refine ⟨_, rfl, s, 7, rfl, src, by decide, by decide +kernel, fun r H4 r0 r1 xb4 src4 => ⟨_, _, rfl, rfl, ?_⟩⟩
      refine ⟨_, rfl, _, _, rfl, rfl, ⟨by decide, by decide, by decide⟩, s, _, rfl, src4, by decide, by decide +kernel, fun r2 H5 r20 r21 xb5 src5 => ⟨_, _, rfl, rfl, ⟨by decide, by decide, by decide⟩, _, _, rfl, rfl, mul_ok (.inl ?_), _, _, rfl, rfl, ?_⟩⟩
      · have e9 : (10 : Int) ^ (9 : Int).toNat = 1000000000 := by decide
        rw [e9] at r21
        omega
      · refine ⟨_, rfl, .inl ⟨rfl, _, SqL.of (xb5 _ _ nD (xb4 _ _ nD hD2))⟩, _, rfl, _, rfl, _, _, rfl, rfl, ⟨by decide, by decide +kernel⟩, _, rfl, _, rfl, _, _, rfl, rfl, mul_ok (.inl (by omega)), _, rfl, _, _, rfl, rfl, _, rfl, by show 4 ≤ sizeLine; decide, fun ix hix => ?_⟩
        have nix := src5.ne hix
        have nDx : D ≠ ix := ne_of_none (xb5 _ _ nD (xb4 _ _ nD hD2)) hix
        refine ⟨_, rfl, s, 4, rfl, src5.new hix, by decide, by decide +kernel, fun r3 H6 r30 r31 xb6 src6 => ?_⟩
        obtain ⟨v, mv, gv⟩ := at_ex (xs := [r - 3, n / 2, (r - 3) * n + (r - 3), 0 - r2 * 10 ^ (20 : Int).toNat]) r30 r31
        refine ⟨ix, _, _, _, rfl, rfl, SqL.of (xb6 _ _ nix upd_same), gv, D, _, _, rfl, rfl, xb6 _ _ nD (by rw [upd_ne nDx]; exact xb5 _ _ nD (xb4 _ _ nD hD2)), ?_, ?_⟩
        · have := ok.le
          have hi2 : i < ns.length := by rw [List.length_map] at hi; exact hi
          rw [List.length_map, len]
          exact Nat.lt_of_lt_of_le (show i < 4 by omega) (by decide)
        · refine ⟨cs ++ [v], _, _, _, rfl, ?_, ?_, fun z => ?_, ?_, ?_⟩
          · rw [upd_same, List.map_append]; rfl
          · rw [List.length_append, len]; rfl
          · intro c hc
            rcases List.mem_append.mp hc with hc | hc
            · exact hb z c hc
            · rw [List.mem_singleton.mp hc]
              exact call_bound (ok.one n (List.mem_of_getElem? hn)) (z n (List.mem_of_getElem? hn)) r0 r1 r20 r21 mv
          · intro c o nc z
            have z5 := xb5 c o nc (xb4 c o nc (xb c o nc z))
            rw [upd_ne (ne_of_none z hD)]
            exact xb6 c o nc (by rw [upd_ne (ne_of_none z5 hix)]; exact z5)
          · obtain ⟨a, b, c, z⟩ := src6
            exact ⟨a, b, c, by rw [upd_ne nD.symm]; exact z⟩
    · rintro σ H2 ⟨cs, y3, y4, y5, rfl, hD2, len, hb, xb, src⟩
      refine ⟨_, rfl, D, _, rfl, .inl ⟨SqL.of hD2, fun q hq => ?_⟩⟩
      have nq := src.ne hq
      rw [List.length_map] at len
      exact k q cs _ (xb.back nq hq) upd_same len hb (xb.trans (XB.of (exn hq))) (src.new hq)
end

/-! ### data that repr shows, empty dicts among them -/
structure Sx (n c : Nat) (d : PyData) : Prop where
  sh : d.showable = true
  len : d.shown.length ≤ c
  dep : d.depth ≤ n
theorem Sx.up {n m c e : Nat} {d : PyData} (h : Sx n c d) (a : n ≤ m) (b : c ≤ e) : Sx m e d := ⟨h.sh, Nat.le_trans h.len b, Nat.le_trans h.dep a⟩
theorem sx_int {i : Int} (h : i.natAbs < 2 ^ 300) : Sx 0 2000 (.int i) := by
  have hl : i.natAbs.log2 < 1920 := by
    by_cases z : i.natAbs = 0
    · rw [z]
      decide
    · exact (Nat.log2_lt z).mpr (Nat.lt_of_lt_of_le h (Nat.pow_le_pow_right (by decide) (by decide)))
  exact ⟨decide_eq_true hl, Nat.le_trans (int_text_len_1921 hl) (by decide), by simp only [PyData.depth]; omega⟩
theorem sx_none : Sx 0 2000 .none := ⟨rfl, by decide +kernel, by decide⟩
theorem sx_bool (b : Bool) : Sx 0 2000 (.bool b) := ⟨rfl, by cases b <;> decide +kernel, by simp only [PyData.depth]; omega⟩
theorem sx_one : Sx 0 2000 (.str "1") := ⟨rfl, by rw [PyData.shown_str]; decide +kernel, by simp only [PyData.depth]; omega⟩
theorem sx_emp : Sx 1 2000 (.dict []) := ⟨rfl, by simp only [PyData.shown, PyData.shownKv]; decide +kernel, by simp only [PyData.depth, PyData.depthKv]; omega⟩
theorem sx_all {n c : Nat} : ∀ {ds : List PyData}, (∀ d ∈ ds, Sx n c d) → PyData.showableAll ds = true ∧ PyData.depthAll ds ≤ n ∧ ((PyData.shownAll ds).map (·.length)).sum ≤ ds.length * c ∧ (PyData.shownAll ds).length = ds.length
  | [], _ => ⟨rfl, by simp only [PyData.depthAll]; omega, by simp [PyData.shownAll], rfl⟩
  | d :: ds, h => by
    obtain ⟨a, e, b⟩ := h d List.mem_cons_self
    obtain ⟨a2, b2, e2, l2⟩ := sx_all fun x hx => h x (List.mem_cons_of_mem _ hx)
    refine ⟨by simp only [PyData.showableAll, a, a2, Bool.and_true], by simp only [PyData.depthAll]; omega, ?_, by simp only [PyData.shownAll, List.length_cons, l2]⟩
    simp only [PyData.shownAll, List.map_cons, List.sum_cons, List.length_cons, Nat.succ_mul]
    omega
theorem sx_tuple {n c : Nat} {ds : List PyData} (h : ∀ d ∈ ds, Sx n c d) : Sx (n + 1) (ds.length * (c + 2) + 3) (.tuple ds) := by
  obtain ⟨a, b, e, l⟩ := sx_all h
  refine ⟨by simpa only [PyData.showable] using a, ?_, by simp only [PyData.depth]; omega⟩
  have := tupleText_len_le (PyData.shownAll ds)
  simp only [PyData.shown, Nat.mul_add] at *
  omega
theorem sx_list {n c : Nat} {ds : List PyData} (h : ∀ d ∈ ds, Sx n c d) : Sx (n + 1) (ds.length * (c + 2) + 3) (.list ds) := by
  obtain ⟨a, b, e, l⟩ := sx_all h
  refine ⟨by simpa only [PyData.showable] using a, ?_, by simp only [PyData.depth]; omega⟩
  have := listText_len_le (PyData.shownAll ds)
  simp only [PyData.shown, Nat.mul_add] at *
  omega
theorem big300 {i : Int} (h : i.natAbs ≤ 10 ^ 62) : i.natAbs < 2 ^ 300 := Nat.lt_of_le_of_lt h (by decide)
/-- a part of a witness -/
structure Pd (d : PyData) : Prop where
  sx : Sx 3 9000 d
  tb : ∀ es, tupD d = some es → es.length ≤ 1000
  bm : ∀ m, intD d = some m → m.natAbs < 2 ^ 5000
theorem pd_int {i : Int} (h : i.natAbs ≤ 10 ^ 62) : Pd (.int i) := ⟨(sx_int (big300 h)).up (by decide) (by decide), (fun _ e => by cases e), fun m e => by cases e; exact Nat.lt_of_lt_of_le (big300 h) (Nat.pow_le_pow_right (by decide) (by decide))⟩
theorem pd_tuple {ds : List PyData} (l : ds.length ≤ 4) (h : ∀ d ∈ ds, Sx 2 2100 d) : Pd (.tuple ds) := ⟨(sx_tuple h).up (by decide) (by have := Nat.mul_le_mul_right 2102 l; omega), (fun _ e => by cases e; omega), (fun _ e => by cases e)⟩
theorem pd_list {ds : List PyData} (l : ds.length ≤ 4) (h : ∀ d ∈ ds, Sx 2 2100 d) : Pd (.list ds) := ⟨(sx_list h).up (by decide) (by have := Nat.mul_le_mul_right 2102 l; omega), (fun _ e => by cases e), (fun _ e => by cases e)⟩
theorem pd_sx {d : PyData} (h : Sx 2 2100 d) (t : tupD d = none) (i : intD d = none) : Pd d := ⟨h.up (by decide) (by decide), (fun _ e => by rw [t] at e; cases e), (fun _ e => by rw [i] at e; cases e)⟩
theorem sx_i {i : Int} (h : i.natAbs ≤ 10 ^ 62) : Sx 2 2100 (.int i) := (sx_int (big300 h)).up (by decide) (by decide)
/-- a witness or what is handed for one -/
structure Good11 (d : PyData) : Prop where
  sx : Sx 4 30000 d
  tb : ∀ ds, d = .tuple ds → ∀ e ∈ ds, ∀ es, tupD e = some es → es.length ≤ 1000
  bm : ∀ dm dw dr m, d = .tuple [dm, dw, dr] → intD dm = some m → m.natAbs < 2 ^ 5000
theorem good11_tuple {ds : List PyData} (l : ds.length ≤ 3) (h : ∀ d ∈ ds, Pd d) : Good11 (.tuple ds) := by
  refine ⟨(sx_tuple (c := 9000) fun d hd => (h d hd).sx).up (by decide) (by have := Nat.mul_le_mul_right 9002 l; omega), fun es e d hd => ?_, fun dm dw dr m e hm => ?_⟩
  · cases e
    exact (h d hd).tb
  · cases e
    exact (h dm List.mem_cons_self).bm m hm
theorem good11_list {ds : List PyData} (l : ds.length ≤ 3) (h : ∀ d ∈ ds, Pd d) : Good11 (.list ds) :=
  ⟨(sx_list (c := 9000) fun d hd => (h d hd).sx).up (by decide) (by have := Nat.mul_le_mul_right 9002 l; omega), (fun _ e => by cases e), (fun _ _ _ _ e => by cases e)⟩
theorem good11_any {d : PyData} (h : Sx 2 2100 d) (t : ∀ ds, d ≠ .tuple ds) : Good11 d := ⟨h.up (by decide) (by decide), fun ds e => absurd e (t ds), fun _ _ _ _ e => absurd e (t _)⟩
theorem DqAll.app {B : Addr → Prop} {H : Hp} : ∀ {xs ys : List V} {ds es : List PyData}, DqAll B H xs ds → DqAll B H ys es → DqAll B H (xs ++ ys) (ds ++ es)
  | _, _, _, _, .nil, h => h
  | _, _, _, _, .cons q t, h => .cons q (DqAll.app t h)
theorem cat_tup {K : PySem.W.Frag} {H : Hp} {Q : VK} {a b : Addr} {xs ys : List V} (ha : H a = some (.tup xs)) (hb : H b = some (.tup ys)) (l : xs.length + ys.length ≤ 2000) (h : ∀ v H5, Ex H H5 → H5 v = some (.tup (xs ++ ys)) → Q (.ref v) H5) : rCatA K (.ref a) (.ref b) H Q := by
  refine ⟨a, b, _, _, rfl, rfl, SqT.of ha, SqT.of hb, Nat.le_trans l (by decide), fun e => ?_, fun _ e => ?_, fun _ _ p hp => ?_⟩
  · refine h b H exr ?_
    rw [e]
    exact hb
  · refine h a H exr ?_
    rw [e, List.append_nil]
    exact ha
  · exact h p _ (exn hp) upd_same
theorem sl_ints {K : PySem.W.Frag} {H : Hp} {Q : VK} {a : Addr} {xs : List V} {lo hi : Option Int} (ha : H a = some (.tup xs)) (h : ∀ v H5, Ex H H5 → H5 v = some (.tup (cutV xs lo hi)) → Q (.ref v) H5) : rSlA K (.ref a) lo hi H Q :=
  ⟨a, _, rfl, SqT.of ha, fun hw => h a H exr (by rw [cut_whole hw]; exact ha), fun _ p hp => h p _ (exn hp) upd_same⟩

/-! ### all but the source and the tables of code objects stays -/
def XN (s : Addr) (H H2 : Hp) : Prop := ∀ c o, c ≠ s → (∀ ps, o ≠ HO.tbl ps) → H c = some o → H2 c = some o
theorem XN.refl {s : Addr} {H : Hp} : XN s H H := fun _ _ _ _ h => h
theorem XN.trans {s : Addr} {H H1 H2 : Hp} (a : XN s H H1) (b : XN s H1 H2) : XN s H H2 := fun c o n t h => b c o n t (a c o n t h)
theorem XN.xb {s : Addr} {H H2 : Hp} (x : XB s H H2) : XN s H H2 := fun c o n _ h => x c o n h
theorem XN.of {s : Addr} {H H2 : Hp} (e : Ex H H2) : XN s H H2 := fun c o _ _ h => e c o h
theorem XN.en {s : Addr} {H H2 : Hp} (e : LamX.ExtN H H2) : XN s H H2 := fun c o _ t h => e c o h t
theorem XN.lst {s q : Addr} {H H2 : Hp} {xs : List V} (x : XN s H H2) (n : q ≠ s) (h : H q = some (.lst xs)) : H2 q = some (.lst xs) := x _ _ n (fun _ z => nomatch z) h
theorem XN.tup {s q : Addr} {H H2 : Hp} {xs : List V} (x : XN s H H2) (src : Src H s) (h : H q = some (.tup xs)) : H2 q = some (.tup xs) := x _ _ (fun z => by
  obtain ⟨_, _, _, e⟩ := src
  rw [z, e] at h
  cases h) (fun _ z => nomatch z) h
theorem XN.tab {C s q : Addr} {H H2 : Hp} {ns : List Int} (x : XN s H H2) (src : Src H s) (h : TabAt C H q ns) : TabAt C H2 q ns := by
  obtain ⟨dx, t, h1, h2⟩ := h
  exact ⟨dx, t, x _ _ (fun z => by
    obtain ⟨_, _, _, e⟩ := src
    rw [z, e] at h1
    cases h1) (fun _ z => nomatch z) h1, x.tup src h2⟩
theorem XN.rows {s q : Addr} {H H2 : Hp} {tss : List (List Int)} (x : XN s H H2) (src : Src H s) (n : q ≠ s) (h : RowsAt H q tss) : RowsAt H2 q tss := by
  obtain ⟨xs, h1, h2⟩ := h
  exact ⟨xs, x.lst n h1, h2.monoT fun _ _ z => x.tup src z⟩
theorem Src.en {s : Addr} {H H2 : Hp} (h : Src H s) (e : LamX.ExtN H H2) : Src H2 s := by
  obtain ⟨a, b, c, h⟩ := h
  exact ⟨a, b, c, e _ _ h (fun _ z => nomatch z)⟩
theorem Tabs.xb {s : Addr} {T : List (Addr × Str)} {H H2 : Hp} (t : LamX.Tabs T H) (src : Src H s) (x : XB s H H2) : LamX.Tabs T H2 := fun p hp => by
  obtain ⟨ps, h1, h2, h3⟩ := t p hp
  obtain ⟨_, _, _, hs⟩ := src
  refine ⟨ps, x _ _ (fun z => by rw [z, hs] at h1; cases h1) h1, h2, fun pos cv hc => ?_⟩
  obtain ⟨c, e1, e2⟩ := h3 pos cv hc
  exact ⟨c, e1, x _ _ (fun z => by rw [z, hs] at e2; exact nomatch (show HO.lst _ = HO.ext _ from Option.some.inj e2)) e2⟩

/-! ### shown texts are texts -/
def Sk (x : Str) : Prop := ∀ c ∈ x.cps.toList, c < 0x110000
theorem sk_ok {x : Str} (h : Sk x) : (PyData.str x).canLay0 = true := by
  simp only [PyData.canLay0, PyData.strOk]
  rw [Array.all_eq_true_iff_forall_mem]
  intro c hc
  exact decide_eq_true (h c (Array.mem_toList_iff.mpr hc))
theorem sk_of (s : String) : Sk (Str.ofString s) := fun c hc => by
  rw [Str.ofString_eq_toList] at hc
  have hc : c ∈ s.toList.map Char.toNat := hc
  obtain ⟨ch, _, rfl⟩ := List.mem_map.mp hc
  have := ch.valid
  show ch.val.toNat < 0x110000
  rcases this with h | ⟨_, h⟩
  · exact Nat.lt_trans h (by decide)
  · exact h
theorem sk_app {a b : Str} (ha : Sk a) (hb : Sk b) : Sk (a ++ b) := fun c hc => by
  have hc : c ∈ (a.cps ++ b.cps).toList := hc
  rw [Array.toList_append, List.mem_append] at hc
  exact hc.elim (ha c) (hb c)
theorem sk_empty : Sk Str.empty := fun c hc => nomatch (show c ∈ ([] : List Nat) from hc)
theorem sk_join {sep : Str} (hs : Sk sep) : ∀ {l : List Str}, (∀ x ∈ l, Sk x) → Sk (Str.join sep l)
  | [], _ => sk_empty
  | [x], h => h x List.mem_cons_self
  | x :: y :: r, h => sk_app (sk_app (h x List.mem_cons_self) hs) (sk_join hs fun z hz => h z (List.mem_cons_of_mem _ hz))
theorem sk_from : ∀ {l : List Str} {k : Nat} {acc : Str}, Sk acc → (∀ x ∈ l, Sk x) → Sk (textFrom k acc l)
  | [], _, _, ha, _ => ha
  | x :: l, k, acc, ha, h => sk_from (l := l) (sk_app (sk_app ha (by split <;> exact sk_of _)) (h x List.mem_cons_self)) fun z hz => h z (List.mem_cons_of_mem _ hz)
theorem sk_all : ∀ {ds : List PyData}, (∀ d ∈ ds, Sk d.shown) → ∀ x ∈ PyData.shownAll ds, Sk x
  | [], _, x, hx => nomatch hx
  | d :: ds, h, x, hx => by
    rcases List.mem_cons.mp (show x ∈ d.shown :: PyData.shownAll ds from hx) with rfl | hx
    · exact h d List.mem_cons_self
    · exact sk_all (fun e he => h e (List.mem_cons_of_mem _ he)) x hx
theorem sk_list {ds : List PyData} (h : ∀ d ∈ ds, Sk d.shown) : Sk (PyData.list ds).shown := by
  simp only [PyData.shown, listText]
  exact sk_app (sk_from (sk_of _) (sk_all h)) (sk_of _)
theorem sk_tuple {ds : List PyData} (h : ∀ d ∈ ds, Sk d.shown) : Sk (PyData.tuple ds).shown := by
  simp only [PyData.shown, tupleText]
  exact sk_app (sk_app (sk_of _) (sk_join (sk_of _) (sk_all h))) (by split <;> exact sk_of _)
theorem sk_none : Sk PyData.none.shown := sk_of _
theorem sk_bool (b : Bool) : Sk (PyData.bool b).shown := by cases b <;> exact sk_of _
theorem sk_int (i : Int) : Sk (PyData.int i).shown := sk_of _
theorem sk_emp : Sk (PyData.dict []).shown := by
  have h : ((PyData.dict []).shown.cps.toList.all fun c => decide (c < 0x110000)) = true := by
    simp only [PyData.shown, PyData.shownKv]
    decide +kernel
  intro c hc
  exact of_decide_eq_true (List.all_eq_true.mp h c hc)
theorem sk_word {x : Str} (h : ((reprText x).cps.toList.all fun c => decide (c < 0x110000)) = true) : Sk (PyData.str x).shown := by
  rw [PyData.shown_str]
  intro c hc
  exact of_decide_eq_true (List.all_eq_true.mp h c hc)
theorem sk_ints (ps : List Int) : Sk (iT ps).shown := sk_tuple fun d hd => by
  obtain ⟨i, _, rfl⟩ := List.mem_map.mp hd
  exact sk_int i
theorem sk_lit (s : String) : Sh 3 (.str (Str.ofString s)) := ⟨sk_ok (sk_of s), by simp only [PyData.depth]; omega⟩

def Shn (d : PyData) : Prop := Sx 4 30000 d ∧ Sk d.shown
theorem shn_tup {ds : List PyData} (l : ds.length ≤ 10) (h : ∀ d ∈ ds, Sx 1 2000 d ∧ Sk d.shown) : Shn (.tuple ds) := ⟨(sx_tuple fun d hd => (h d hd).1).up (by decide) (by have := Nat.mul_le_mul_right 2002 l; omega), sk_tuple fun d hd => (h d hd).2⟩
theorem shn_list {ds : List PyData} (l : ds.length ≤ 10) (h : ∀ d ∈ ds, Sx 1 2000 d ∧ Sk d.shown) : Shn (.list ds) := ⟨(sx_list fun d hd => (h d hd).1).up (by decide) (by have := Nat.mul_le_mul_right 2002 l; omega), sk_list fun d hd => (h d hd).2⟩
theorem s_int {i : Int} (h : i.natAbs < 2 ^ 300) : Sx 1 2000 (.int i) ∧ Sk (PyData.int i).shown := ⟨(sx_int h).up (by decide) (Nat.le_refl _), sk_int i⟩
theorem s_bool (b : Bool) : Sx 1 2000 (.bool b) ∧ Sk (PyData.bool b).shown := ⟨(sx_bool b).up (by decide) (Nat.le_refl _), sk_bool b⟩
theorem shn_of {d : PyData} (h : Sx 1 2000 d ∧ Sk d.shown) : Shn d := ⟨h.1.up (by decide) (by decide), h.2⟩
theorem shn_emp : Shn (.dict []) := shn_of ⟨sx_emp.up (by decide) (by decide), sk_emp⟩
theorem shn_none : Shn .none := shn_of ⟨sx_none.up (by decide) (by decide), sk_none⟩
theorem s_ints {ps : List Int} (h : ∀ x ∈ ps, x.natAbs < 2 ^ 300) : ∀ d ∈ ps.map PyData.int, Sx 1 2000 d ∧ Sk d.shown := fun d hd => by
  obtain ⟨i, hi, rfl⟩ := List.mem_map.mp hd
  exact s_int (h i hi)
theorem s_zeros {n : Nat} : ∀ d ∈ (List.replicate n (0 : Int)).map PyData.int, Sx 1 2000 d ∧ Sk d.shown := s_ints fun x hx => by rw [List.eq_of_mem_replicate hx]; decide
theorem s_snoc {ds : List PyData} {e : PyData} (h : ∀ d ∈ ds, Sx 1 2000 d ∧ Sk d.shown) (he : Sx 1 2000 e ∧ Sk e.shown) : ∀ d ∈ ds ++ [e], Sx 1 2000 d ∧ Sk d.shown := fun d hd => by
  rcases List.mem_append.mp hd with h2 | h2
  · exact h d h2
  · rw [List.mem_singleton.mp h2]
    exact he
theorem shn_word {x : Str} (h : ((reprText x).cps.toList.all fun c => decide (c < 0x110000)) = true) (l : (reprText x).length ≤ 2000) : Shn (.str x) := shn_of ⟨⟨rfl, by rw [PyData.shown_str]; exact l, by simp only [PyData.depth]; omega⟩, sk_word h⟩

theorem Dq.xb {s : Addr} {H H2 : Hp} {v : V} {d : PyData} (src : Src H s) (x : XB s H H2) (q : Dq (· ≠ s) H v d) : Dq (· ≠ s) H2 v d := q.to (fun a xs b h => ⟨x _ _ b h, b⟩) (fun a xs h => tup_xb src h x) (fun a h => x _ _ (fun z => by
  obtain ⟨_, _, _, e⟩ := src
  rw [z, e] at h
  cases h) h)
theorem DqAll.xb {s : Addr} {H H2 : Hp} {vs : List V} {ds : List PyData} (src : Src H s) (x : XB s H H2) (q : DqAll (· ≠ s) H vs ds) : DqAll (· ≠ s) H2 vs ds := q.to (fun a xs b h => ⟨x _ _ b h, b⟩) (fun a xs h => tup_xb src h x) (fun a h => x _ _ (fun z => by
  obtain ⟨_, _, _, e⟩ := src
  rw [z, e] at h
  cases h) h)
theorem atI_nn {α : Type} {xs : List α} {k : Nat} {v : α} (h : xs[k]? = some v) : atI xs (k : Int) = some v := by
  unfold atI
  rw [Evl.ixN_nat (List.getElem?_eq_some_iff.mp h).1]
  exact h
theorem DqAll.at {B : Addr → Prop} {H : Hp} {xs : List V} {ds : List PyData} {r : Int} (h : DqAll B H xs ds) (r0 : 0 ≤ r) (r1 : r < xs.length) : ∃ (k : Nat) (v : V) (d : PyData), r = (k : Int) ∧ xs[k]? = some v ∧ atI xs r = some v ∧ ds[k]? = some d ∧ d ∈ ds ∧ Dq B H v d := by
  obtain ⟨k, rfl⟩ := Int.eq_ofNat_of_zero_le r0
  have hk : k < xs.length := by omega
  have hv := List.getElem?_eq_getElem hk
  obtain ⟨d, hd, q⟩ := h.get hv
  exact ⟨k, _, d, rfl, hv, atI_nn hv, hd, List.mem_of_getElem? hd, q⟩
theorem NoSeq.xb {s : Addr} {H H2 : Hp} {v : V} (src : Src H s) (x : XB s H H2) (h : NoSeq H v) : NoSeq H2 v := h.to (fun a kvs e => x _ _ (fun z => by
  obtain ⟨_, _, _, q⟩ := src
  rw [z, q] at e
  cases e) e) (fun a kvs e => x _ _ (fun z => by
  obtain ⟨_, _, _, q⟩ := src
  rw [z, q] at e
  cases e) e)
/-- targets with the index of their fault -/
structure BadG (s : Addr) (ns : List Int) (H : Hp) (x : V) (i : Int) (od : Option (List PyData)) : Prop where
  here : match od with
    | none => NoSeq H x
    | some ds => ∃ (q : Bool × Addr) (xs : List V), x = .ref q.2 ∧ (q.1 = false → q.2 ≠ s) ∧ SqH H q xs ∧ DqAll (· ≠ s) H xs ds
  bd : ∀ ds, od = some ds → ds.length ≤ 1000 ∧ ∀ d ∈ ds, ShortT d
  due : tgtDue ns od = some i
theorem BadG.tgt {K : PySem.W.Frag} {s : Addr} {ns : List Int} {H : Hp} {x : V} {i : Int} {od : Option (List PyData)} (h : BadG s ns H x i od) : TgtAt K (· ≠ s) H x od := by
  cases od with
  | none => exact h.here
  | some ds =>
    obtain ⟨q, xs, e, _, a, b⟩ := h.here
    exact ⟨q, xs, e, a, b⟩
theorem BadG.mono {s : Addr} {ns : List Int} {H H2 : Hp} {x : V} {i : Int} {od : Option (List PyData)} (e : Ex H H2) (h : BadG s ns H x i od) : BadG s ns H2 x i od := by
  refine ⟨?_, h.bd, h.due⟩
  have g := h.here
  cases od with
  | none => exact NoSeq.to (fun a kvs z => e _ _ z) (fun a kvs z => e _ _ z) g
  | some ds =>
    obtain ⟨q, xs, rfl, n, a, b⟩ := g
    exact ⟨q, xs, rfl, n, a.mono e, b.mono e⟩
theorem BadG.xb {s : Addr} {ns : List Int} {H H2 : Hp} {x : V} {i : Int} {od : Option (List PyData)} (src : Src H s) (xb : XB s H H2) (h : BadG s ns H x i od) : BadG s ns H2 x i od := by
  refine ⟨?_, h.bd, h.due⟩
  have g := h.here
  cases od with
  | none => exact NoSeq.xb src xb g
  | some ds =>
    obtain ⟨q, xs, rfl, n, a, b⟩ := g
    refine ⟨q, xs, rfl, n, ?_, b.xb src xb⟩
    obtain ⟨b2, q⟩ := q
    cases b2
    · exact xb _ _ (n rfl) a
    · exact tup_xb src (show H q = some (.tup xs) from a) xb
/-- the pair of both -/
def PairG (s : Addr) (ns : List Int) (H : Hp) (v : V) : Prop := ∃ (r : Addr) (x : V) (i : Int) (od : Option (List PyData)), v = .ref r ∧ r ≠ s ∧ H r = some (.lst [x, .int i]) ∧ BadG s ns H x i od
theorem PairG.mono {s : Addr} {ns : List Int} {H H2 : Hp} {v : V} (e : Ex H H2) (h : PairG s ns H v) : PairG s ns H2 v := by
  obtain ⟨r, x, i, od, rfl, n, h1, h2⟩ := h
  exact ⟨r, x, i, od, rfl, n, e _ _ h1, h2.mono e⟩
theorem PairG.xb {s : Addr} {ns : List Int} {H H2 : Hp} {v : V} (src : Src H s) (xb : XB s H H2) (h : PairG s ns H v) : PairG s ns H2 v := by
  obtain ⟨r, x, i, od, rfl, n, h1, h2⟩ := h
  exact ⟨r, x, i, od, rfl, n, xb _ _ n h1, h2.xb src xb⟩
theorem badg_no {s : Addr} {ns : List Int} {H : Hp} {x : V} (h : NoSeq H x) : BadG s ns H x (-1) none := ⟨h, (fun ds e => by cases e), rfl⟩
theorem badg_nil {s : Addr} {ns : List Int} {H : Hp} {q : Bool × Addr} (n : q.1 = false → q.2 ≠ s) (h : SqH H q []) : BadG s ns H (.ref q.2) (-1) (some []) := ⟨⟨q, [], rfl, n, h, .nil⟩, (fun ds e => by cases e; exact ⟨Nat.zero_le _, fun d hd => nomatch hd⟩), rfl⟩
theorem badg_go {s : Addr} {ns : List Int} {H : Hp} {q : Bool × Addr} {xs : List V} {ds : List PyData} {i : Int} (n : q.1 = false → q.2 ≠ s) (h : SqH H q xs) (a : DqAll (· ≠ s) H xs ds) (l : ds.length ≤ 1000) (sh : ∀ d ∈ ds, ShortT d) (ne : ds ≠ []) (g : goT ns ds [] = some i) : BadG s ns H (.ref q.2) i (some ds) :=
  ⟨⟨q, xs, rfl, n, h, a⟩, (fun es e => by cases e; exact ⟨l, sh⟩), (if_neg ne).trans g⟩
theorem go_bad {ns : List Int} {d : PyData} {ds : List PyData} (h : isSeatO ns (oT d) = false) : goT ns (d :: ds) [] = some 0 := by
  show (if isSeatO ns (oT d) = true ∧ intsD d ∉ [] then _ else _) = _
  rw [if_neg (fun z => by rw [h] at z; cases z.1)]
  rfl
theorem oT_ints (ps : List Int) : oT (iT ps) = some (ps.map some) := by
  show some ((ps.map PyData.int).map intD) = _
  rw [List.map_map]
  rfl
theorem go_good {ns p : List Int} {d : PyData} {ds : List PyData} (sp : SeatOk ns p) (h : isSeatO ns (oT d) = false ∨ d = iT p) : goT ns (iT p :: d :: ds) [] = some 1 := by
  have is : isSeatO ns (oT (iT p)) = true := by rw [oT_ints]; exact isSeat_ok sp
  show (if isSeatO ns (oT (iT p)) = true ∧ intsD (iT p) ∉ [] then goT ns (d :: ds) ([] ++ [intsD (iT p)]) else _) = _
  rw [if_pos ⟨is, by simp⟩, intsD_is]
  show (if isSeatO ns (oT d) = true ∧ intsD d ∉ [] ++ [p] then _ else _) = _
  rw [if_neg]
  · rfl
  · rintro ⟨a, b⟩
    rcases h with h | rfl
    · rw [h] at a
      cases a
    · exact b (by rw [intsD_is]; simp)
theorem not_seat_len {ns : List Int} {ds : List PyData} (h : ds.length ≠ ns.length) : isSeatO ns (oT (.tuple ds)) = false := by
  show (decide ((ds.map intD).length = ns.length) && _) = false
  rw [List.length_map, decide_eq_false h, Bool.false_and]
theorem it_inj {a b : List Int} (h : iT a = iT b) : a = b := by
  injection h with h
  have := congrArg (List.filterMap intD) h
  rwa [fm_ints, fm_ints] at this
theorem not_seat_odd {ns : List Int} {ds : List PyData} {e : PyData} (he : e ∈ ds) (n : intD e = none) : isSeatO ns (oT (.tuple ds)) = false := by
  cases h : isSeatO ns (oT (.tuple ds)) with
  | false => rfl
  | true =>
    obtain ⟨ps, e1, _⟩ := seat_ints h
    injection e1 with e1
    rw [e1] at he
    obtain ⟨i, _, rfl⟩ := List.mem_map.mp he
    cases n
theorem not_seat_sizes {ns : List Int} (ne : ns ≠ []) : isSeatO ns (oT (iT ns)) = false := by
  cases h : isSeatO ns (oT (iT ns)) with
  | false => rfl
  | true =>
    obtain ⟨ps, e1, sp⟩ := seat_ints h
    obtain rfl := it_inj e1
    cases ns with
    | nil => exact absurd rfl ne
    | cons n r =>
      have := sp.1.2
      omega
theorem last_seat : ∀ {ns : List Int}, (∀ n ∈ ns, 1 ≤ n) → SeatOk ns (ns.map fun n => n - 1)
  | [], _ => True.intro
  | n :: ns, o => ⟨⟨by have := o n List.mem_cons_self; show 0 ≤ n - 1; omega, by show n - 1 < n; omega⟩, last_seat fun m hm => o m (List.mem_cons_of_mem _ hm)⟩
theorem short_tup {ds : List PyData} (l : ds.length ≤ 1000) : ShortT (.tuple ds) := fun es e => by cases e; exact l
theorem short_no {d : PyData} (h : tupD d = none) : ShortT d := fun es e => by rw [h] at e; cases e

theorem lam_updl {X : Cx} {k : Nat} {H : Hp} {f l : Addr} {xs ys : List V} {tb : XK → TE} (hl : H l = some (.lst xs)) (h : CG.LamAt X k H f tb) : CG.LamAt X k (upd H l (.lst ys)) f tb := by
  obtain ⟨pa, bo, sc, c', a1, a2, a3⟩ := h
  refine ⟨pa, bo, sc, c', ?_, ?_, a3⟩
  · rw [upd_ne (fun z => by rw [z, hl] at a1; exact nomatch (show HO.lst _ = HO.ext _ from Option.some.inj a1))]
    exact a1
  · rw [upd_ne (fun z => by rw [z, hl] at a2; exact nomatch (show HO.lst _ = HO.ext _ from Option.some.inj a2))]
    exact a2
theorem lam_mono {X : Cx} {k : Nat} {H G : Hp} {f : Addr} {tb : XK → TE} (e : Ex H G) (h : CG.LamAt X k H f tb) : CG.LamAt X k G f tb := h.ext (LamX.ExtN.of e)
theorem tabs_updl {T : List (Addr × Str)} {H : Hp} {l : Addr} {xs ys : List V} (hl : H l = some (.lst xs)) (t : LamX.Tabs T H) : LamX.Tabs T (upd H l (.lst ys)) := fun p hp => by
  obtain ⟨ps, h1, h2, h3⟩ := t p hp
  refine ⟨ps, ?_, h2, fun pos cv hc => ?_⟩
  · rw [upd_ne (fun z => by rw [z, hl] at h1; cases h1)]
    exact h1
  · obtain ⟨c, e1, e2⟩ := h3 pos cv hc
    refine ⟨c, e1, ?_⟩
    rw [upd_ne (fun z => by rw [z, hl] at e2; exact nomatch (show HO.lst _ = HO.ext _ from Option.some.inj e2))]
    exact e2
theorem en_updl {H G : Hp} {l : Addr} {o : HO} (e : LamX.ExtN H G) (n : H l = none) : LamX.ExtN H (upd G l o) := fun c u q nt => by
  rw [upd_ne (ne_of_none q n)]
  exact e c u q nt
/-- all but the tables stays, and a is new -/
def EA (a : Addr) (H G : Hp) : Prop := ∀ c o, (∀ ps, o ≠ HO.tbl ps) → H c = some o → G c = some o ∧ c ≠ a
theorem EA.start {a : Addr} {H G G2 : Hp} (e : LamX.ExtN H G) (n : G a = none) (x : Ex G G2) : EA a H G2 := fun c o nt h => ⟨x _ _ (e c o h nt), ne_of_none (e c o h nt) n⟩
theorem EA.ext {a : Addr} {H G G2 : Hp} (h : EA a H G) (e : LamX.ExtN G G2) : EA a H G2 := fun c o nt q => ⟨e _ _ (h c o nt q).1 nt, (h c o nt q).2⟩
theorem EA.upd {a : Addr} {H G : Hp} {o : HO} (h : EA a H G) : EA a H (upd G a o) := fun c u nt q => ⟨by rw [upd_ne (h c u nt q).2]; exact (h c u nt q).1, (h c u nt q).2⟩
theorem EA.xn {a s : Addr} {H G : Hp} (h : EA a H G) : XN s H G := fun c o _ nt q => (h c o nt q).1
theorem EA.src {a s : Addr} {H G : Hp} (h : EA a H G) (src : Src H s) : Src G s := by
  obtain ⟨x, y, z, e⟩ := src
  exact ⟨x, y, z, (h _ _ (by intro _ q; cases q) e).1⟩
theorem Dq.xn {s : Addr} {H H2 : Hp} {v : V} {d : PyData} (src : Src H s) (x : XN s H H2) (q : Dq (· ≠ s) H v d) : Dq (· ≠ s) H2 v d := q.to (fun a xs b h => ⟨x.lst b h, b⟩) (fun a xs h => x.tup src h) (fun a h => x _ _ (fun z => by
  obtain ⟨_, _, _, e⟩ := src
  rw [z, e] at h
  cases h) (fun _ z => nomatch z) h)
theorem NoSeq.xn {s : Addr} {H H2 : Hp} {v : V} (src : Src H s) (x : XN s H H2) (h : NoSeq H v) : NoSeq H2 v := h.to (fun a kvs e => x _ _ (fun z => by
  obtain ⟨_, _, _, q⟩ := src
  rw [z, q] at e
  cases e) (fun _ z => nomatch z) e) (fun a kvs e => x _ _ (fun z => by
  obtain ⟨_, _, _, q⟩ := src
  rw [z, q] at e
  cases e) (fun _ z => nomatch z) e)
theorem DqAll.xn {s : Addr} {H H2 : Hp} {vs : List V} {ds : List PyData} (src : Src H s) (x : XN s H H2) (q : DqAll (· ≠ s) H vs ds) : DqAll (· ≠ s) H2 vs ds := q.to (fun a xs b h => ⟨x.lst b h, b⟩) (fun a xs h => x.tup src h) (fun a h => x _ _ (fun z => by
  obtain ⟨_, _, _, e⟩ := src
  rw [z, e] at h
  cases h) (fun _ z => nomatch z) h)
theorem BadG.xn {s : Addr} {ns : List Int} {H H2 : Hp} {x : V} {i : Int} {od : Option (List PyData)} (src : Src H s) (xb : XN s H H2) (h : BadG s ns H x i od) : BadG s ns H2 x i od := by
  refine ⟨?_, h.bd, h.due⟩
  have g := h.here
  cases od with
  | none => exact NoSeq.xn src xb g
  | some ds =>
    obtain ⟨q, xs, rfl, n, a, b⟩ := g
    refine ⟨q, xs, rfl, n, ?_, b.xn src xb⟩
    obtain ⟨b2, q⟩ := q
    cases b2
    · exact xb.lst (n rfl) a
    · exact xb.tup src (show H q = some (.tup xs) from a)

/-- the values of _law_odd_value -/
def oddL : List PyData := [.none, .bool true, .bool false, .str "1", .tuple [.int 1], .list [.int 1], .dict [], .int (-1), .str "", .int (-1000000000000000000000000000000)]
theorem s_word {x : Str} (h : ((reprText x).cps.toList.all fun c => decide (c < 0x110000)) = true) (l : (reprText x).length ≤ 2000) : Sx 1 2000 (.str x) ∧ Sk (PyData.str x).shown := ⟨⟨rfl, by rw [PyData.shown_str]; exact l, by simp only [PyData.depth]; omega⟩, sk_word h⟩
theorem s_tup1 : Sx 1 2000 (.tuple [.int 1]) ∧ Sk (PyData.tuple [.int 1]).shown := ⟨⟨by decide +kernel, by simp only [PyData.shown, PyData.shownAll]; decide +kernel, by simp [PyData.depth, PyData.depthAll]⟩, sk_tuple fun d hd => by rw [List.mem_singleton.mp hd]; exact sk_int 1⟩
theorem s_lst1 : Sx 1 2000 (.list [.int 1]) ∧ Sk (PyData.list [.int 1]).shown := ⟨⟨by decide +kernel, by simp only [PyData.shown, PyData.shownAll]; decide +kernel, by simp [PyData.depth, PyData.depthAll]⟩, sk_list fun d hd => by rw [List.mem_singleton.mp hd]; exact sk_int 1⟩
theorem s_emp : Sx 1 2000 (.dict []) ∧ Sk (PyData.dict []).shown := ⟨sx_emp, sk_emp⟩
theorem s_none : Sx 1 2000 .none ∧ Sk PyData.none.shown := ⟨sx_none.up (by decide) (Nat.le_refl _), sk_none⟩
theorem odd_s {d : PyData} (h : d ∈ oddL) : Sx 1 2000 d ∧ Sk d.shown := by
  simp only [oddL, List.mem_cons, List.not_mem_nil, or_false] at h
  rcases h with rfl | rfl | rfl | rfl | rfl | rfl | rfl | rfl | rfl | rfl
  · exact s_none
  · exact s_bool true
  · exact s_bool false
  · exact s_word (by decide +kernel) (by decide +kernel)
  · exact s_tup1
  · exact s_lst1
  · exact s_emp
  · exact s_int (by decide)
  · exact s_word (by decide +kernel) (by decide +kernel)
  · exact s_int (by decide)
section
variable {P : Program} {w : World} {K : PySem.W.Frag} {mg : Str → Option Value} {base : Heap}
def sp_law_odd_value : Sp := fun vs H Q _ => ∃ (s : Addr), vs = [.ref s] ∧ Src H s ∧ ∀ v d H2, Dq (· ≠ s) H2 v d → d ∈ oddL → XB s H H2 → Src H2 s → Q v H2
theorem ok_law_odd_value (T : TX K mg) : FnOk P w K mg base CX0 3 T.f_law_odd_value T.fd_law_odd_value ["_law_source_here"] sp_law_odd_value := by
  refine T.F_law_odd_value.ok sc_law_odd_value (fun vs H Q E h => ?_) (fun cdv A outer s H vs Q E hr h => ?_)
  · obtain ⟨s, rfl, _⟩ := h
    rfl
  · obtain ⟨s, rfl, src, k⟩ := h
    refine ⟨_, (pss_cons (ps_set (i := 1) sc_law_odd_value.nd rfl (Or.inl rfl) (pe_lst (pa_cons pe_non (pa_cons pe_bl (pa_cons pe_bl (pa_cons pe_str (pa_cons (pe_tup (pa_cons pe_int pa_nil)) (pa_cons (pe_lst (pa_cons pe_int pa_nil)) (pa_cons pe_dnewK (pa_cons (pe_un un_neg pe_int) (pa_cons pe_str (pa_cons (pe_op op_sub pe_int (pe_op op_pow pe_int pe_int)) pa_nil)))))))))))) (pss_one (ps_ret (pe_ix ix_list (pv 1) (pe_call (ok_law_take T) hr rfl T.m_law_take T.F_law_take.kp T.b_law_take .nil pass0 (pa_cons (pv 0) (pa_cons pe_int pa_nil))) (fun _ _ => rfl))))), ?_⟩
    refine ⟨slen rfl, ?_⟩
    (intro t1 nt1; generalize hGt1 : upd _ t1 _ = H1; have eH1 := exG hGt1 nt1; have ht1 := atG hGt1; clear hGt1)
    refine ⟨slen rfl, ?_⟩
    (intro l1 nl1; generalize hGl1 : upd _ l1 _ = H2; have eH2 := exG hGl1 nl1; have hl1 := atG hGl1; clear hGl1)
    refine fun d1 nd1 => ?_
    generalize hG : upd H2 d1 _ = H3
    have eH3 := exG hG nd1
    have hd1 := atG hG
    clear hG
    refine ⟨_, rfl, _, _, rfl, rfl, ⟨by decide, by decide +kernel⟩, _, _, rfl, rfl, slen rfl, ?_⟩
    (intro L nL; generalize hGL : upd _ L _ = H4; have eH4 := exG hGL nL; have hL := atG hGL; clear hGL)
    have p30 : (0 - 10 ^ Int.toNat 30 : Int) = -1000000000000000000000000000000 := by decide +kernel
    replace hL : H4 L = some (.lst [.non, .bl true, .bl false, .str "1", .ref t1, .ref l1, .ref d1, .int (-1), .str "", .int (0 - 10 ^ Int.toNat 30)]) := hL
    rw [p30] at hL
    have e4 := ext eH1 (ext eH2 (ext eH3 eH4))
    have nl1s := (src.mono eH1).ne nl1
    have nLs := (src.mono (ext eH1 (ext eH2 eH3))).ne nL
    have src4 := src.mono e4
    have all : DqAll (· ≠ s) H4 [V.non, .bl true, .bl false, .str "1", .ref t1, .ref l1, .ref d1, .int (-1), .str "", .int (-1000000000000000000000000000000)] oddL :=
      .cons .non (.cons (.bl _) (.cons (.bl _) (.cons (.str _) (.cons (.tup ((ext eH2 (ext eH3 eH4)) _ _ ht1) (.cons (.int 1) .nil)) (.cons (.lst ((ext eH3 eH4) _ _ hl1) nl1s (.cons (.int 1) .nil)) (.cons (.emp (eH4 _ _ hd1)) (.cons (.int _) (.cons (.str _) (.cons (.int _) .nil)))))))))
    refine ⟨_, rfl, _, rfl, s, 10, rfl, src4, by decide, by decide +kernel, fun r H5 r0 r1 xb src5 => ?_⟩
    obtain ⟨_, v, d, _, _, gv, _, md, q0⟩ := all.at r0 (by simpa using r1)
    exact ⟨L, _, _, _, rfl, rfl, SqL.of (xb _ _ nLs hL), gv, k v d _ (q0.xb src4 xb) md ((XB.of e4).trans xb) src5⟩
end

def seqD : PyData → Option (List PyData)
  | .list ds => some ds
  | .tuple ds => some ds
  | _ => none
theorem Dq.tgt2 {K : PySem.W.Frag} {B : Addr → Prop} {H : Hp} {v : V} {d : PyData} (q : Dq B H v d) : TgtAt K B H v (seqD d) := by
  cases q with
  | lst h _ hs => exact ⟨(false, _), _, rfl, h, hs⟩
  | tup h hs => exact ⟨(true, _), _, rfl, h, hs⟩
  | non => exact .inl rfl
  | bl b => exact .inr (.inl ⟨b, rfl⟩)
  | int i => exact .inr (.inr (.inl ⟨i, rfl⟩))
  | str z => exact .inr (.inr (.inr (.inl ⟨z, rfl⟩)))
  | emp h => exact .inr (.inr (.inr (.inr ⟨_, rfl, .inl ⟨_, h⟩⟩)))
/-- data that is no list of ring sizes -/
structure BadRD (d : PyData) : Prop where
  sh : Shn d
  bad : rgBad (seqD d) = true
  le : ∀ ds, seqD d = some ds → ds.length ≤ 1000
/-- a value that is no list of ring sizes -/
def BadR (s : Addr) (H : Hp) (v : V) : Prop := (∃ d, Dq (· ≠ s) H v d ∧ BadRD d) ∨ ∃ a, v = .ref a ∧ a ≠ s ∧ H a = some (.dK [(.inl 3, .int 4)])
theorem BadR.xn {s : Addr} {H H2 : Hp} {v : V} (src : Src H s) (x : XN s H H2) (h : BadR s H v) : BadR s H2 v := by
  rcases h with ⟨d, q, b⟩ | ⟨a, rfl, n, h⟩
  · exact .inl ⟨d, q.xn src x, b⟩
  · exact .inr ⟨a, rfl, n, x _ _ n (fun _ z => nomatch z) h⟩
theorem rgBad_bent {xs ys : List Int} {o : PyData} (h : atLeast (intD o) 1 = false) : rgBad (some (xs.map PyData.int ++ [o] ++ ys.map PyData.int)) = true := by
  show (!(_ && ((xs.map PyData.int ++ [o] ++ ys.map PyData.int).map fun d => atLeast (intD d) 1).all id)) = true
  have : ((xs.map PyData.int ++ [o] ++ ys.map PyData.int).map fun d => atLeast (intD d) 1).all id = false := by
    rw [List.all_eq_false]
    exact ⟨false, List.mem_map.mpr ⟨o, by simp, h⟩, by simp⟩
  rw [this, Bool.and_false]
  rfl
section
variable {P : Program} {w : World} {K : PySem.W.Frag} {mg : Str → Option Value} {base : Heap}
def sp_law_bad_rings : Sp := fun vs H Q _ => ∃ (s l : Addr) (ns : List Int), vs = [.ref s, .ref l] ∧ Src H s ∧ H l = some (.lst (ns.map V.int)) ∧ l ≠ s ∧ SzOk ns ∧ (∀ n ∈ ns, n ≤ 10 ^ 27) ∧ ∀ v H2, BadR s H2 v → XB s H H2 → Src H2 s → Q v H2
theorem ok_law_bad_rings (T : TX K mg) : FnOk P w K mg base CX0 4 T.f_law_bad_rings T.fd_law_bad_rings ["_law_source_here", "_law_sizes"] sp_law_bad_rings := by
  refine T.F_law_bad_rings.ok sc_law_bad_rings (fun vs H Q E h => ?_) (fun cdv A outer s H vs Q E hr h => ?_)
  · obtain ⟨s, l, ns, rfl, _⟩ := h
    rfl
  · obtain ⟨s, l, ns, rfl, src, hl, nls, ok, le, k⟩ := h
    refine ⟨_, (pss_cons (ps_set (i := 2) sc_law_bad_rings.nd rfl (Or.inl rfl) (pe_call (ok_law_take T) (hr.mono (by decide)) rfl T.m_law_take T.F_law_take.kp T.b_law_take .nil pass0 (pa_cons (pv 0) (pa_cons (pe_callB call_len_seq (by rfl) T.z_len (by decide +kernel) (pa_cons (pv 1) pa_nil)) pa_nil)))) (pss_cons (ps_set (i := 3) sc_law_bad_rings.nd rfl (Or.inl rfl) (pe_op (r := rCatR K) op_catR (pe_op (r := rCatR K) op_catR (pe_slice sl_list (pv 1) po_none (po_some (pv 2))) (pe_lst (pa_cons (pe_ix ix_list (pe_lst (pa_cons (pe_call (ok_law_odd_value T) hr rfl T.m_law_odd_value T.F_law_odd_value.kp T.b_law_odd_value .nil pass0 (pa_cons (pv 0) pa_nil)) (pa_cons pe_int pa_nil))) (pe_call (ok_law_take T) (hr.mono (by decide)) rfl T.m_law_take T.F_law_take.kp T.b_law_take .nil pass0 (pa_cons (pv 0) (pa_cons pe_int pa_nil))) (fun _ _ => rfl)) pa_nil))) (pe_slice sl_list (pv 1) (po_some (pe_op op_add (pv 2) pe_int)) po_none))) (pss_cons (ps_set (i := 4) sc_law_bad_rings.nd rfl (Or.inl rfl) (pe_lst (pa_cons pe_non (pa_cons pe_int (pa_cons pe_str (pa_cons pe_dnewK (pa_cons (pe_lst pa_nil) (pa_cons (pe_tup pa_nil) (pa_cons (pe_op op_rep (pe_lst (pa_cons pe_int pa_nil)) pe_int) (pa_cons (pv 3) (pa_cons (pe_callTy call_tuple_of (by rfl) T.z_tuple (by decide +kernel) (pa_cons (pv 3) pa_nil)) (pa_cons (pe_disp (pps_cons pe_int pe_int pps_nil) rfl rfl (by simp) (by decide)) (pa_cons (pv 3) pa_nil))))))))))))) (pss_one (ps_ret (pe_ix ix_list (pv 4) (pe_call (ok_law_take T) (hr.mono (by decide)) rfl T.m_law_take T.F_law_take.kp T.b_law_take .nil pass0 (pa_cons (pv 0) (pa_cons pe_int pa_nil))) (fun _ _ => rfl))))))), ?_⟩
    have l4 := ok.le
    have lp : 1 ≤ ns.length := List.length_pos_iff.mpr ok.pos
    refine ⟨_, rfl, _, rfl, l, _, rfl, .inl (SqL.of hl), s, ns.length, ?_⟩
    refine ⟨by rw [List.length_map]; rfl, src, by omega, Nat.lt_of_le_of_lt (show ((ns.length : Int)).natAbs ≤ 4 by omega) (by decide +kernel), fun r H1 r0 r1 xb1 src1 => ?_⟩
    obtain ⟨j, rfl⟩ := Int.eq_ofNat_of_zero_le r0
    have hl1 := xb1 _ _ nls hl
    have jl : j < ns.length := by omega
    dsimp only [gName]
    show tSeq _ _ _ [_, _, _, _, _] _
    refine ⟨_, rfl, _, rfl, j, rfl, l, _, rfl, SqL.of hl1, fun c hc => ?_⟩
    rw [cut_to]
    generalize hG : upd H1 c _ = H2
    have eH2 := exG hG hc
    have hc2 := atG hG
    have ncs := src1.ne hc
    clear hG
    have src2 := src1.mono eH2
    refine ⟨_, rfl, s, rfl, src2, fun v d H3 qv md xb3 src3 => ⟨slen rfl, ?_⟩⟩
    (intro il nil; generalize hGil : upd _ il _ = H4; have eH4 := exG hGil nil; have hil := atG hGil; clear hGil)
    have nils := src3.ne nil
    have src4 := src3.mono eH4
    have qv4 := qv.mono eH4
    refine ⟨_, rfl, s, 2, rfl, src4, by decide, by decide +kernel, fun r2 H5 q0 q1 xb5 src5 => ?_⟩
    have two : DqAll (· ≠ s) H4 [v, .int 0] [d, .int 0] := .cons qv4 (.cons (.int 0) .nil)
    obtain ⟨_, o, od, _, _, go, _, mo, qo0⟩ := two.at q0 (by simpa using q1)
    have qo := qo0.xb src4 xb5
    have bo : atLeast (intD od) 1 = false ∧ (Sx 1 2000 od ∧ Sk od.shown) := by
      simp only [List.mem_cons, List.not_mem_nil, or_false] at mo
      rcases mo with rfl | rfl
      · refine ⟨?_, odd_s md⟩
        simp only [oddL, List.mem_cons, List.not_mem_nil, or_false] at md
        rcases md with rfl | rfl | rfl | rfl | rfl | rfl | rfl | rfl | rfl | rfl <;> rfl
      · exact ⟨rfl, s_int (by decide)⟩
    refine ⟨il, _, _, _, rfl, rfl, SqL.of (xb5 _ _ nils hil), go, slen rfl, ?_⟩
    (intro ol nol; generalize hGol : upd _ ol _ = H6; have eH6 := exG hGol nol; have hol := atG hGol; clear hGol)
    have xb16 : XB s H2 H6 := xb3.trans ((XB.of eH4).trans (xb5.trans (XB.of eH6)))
    have hc6 := xb16 _ _ ncs hc2
    have qo6 := qo.mono eH6
    have src6 := src5.mono eH6
    have nols := src5.ne nol
    refine ⟨c, ol, _, _, rfl, rfl, SqL.of hc6, SqL.of hol, ?_, ?_⟩
    · rw [List.length_take, List.length_map]
      exact Nat.le_trans (Nat.add_le_add_right (Nat.min_le_right _ _) _) (Nat.le_trans (show ns.length + 1 ≤ 5 by omega) (by decide))
    (intro m nm; generalize hGm : upd _ m _ = H7; have eH7 := exG hGm nm; have hm := atG hGm; clear hGm)
    have hl7 := eH7 _ _ (xb16 _ _ nls (eH2 _ _ hl1))
    have nms := src6.ne nm
    unfold tNoPart
    refine ⟨_, rfl, _, rfl, _, _, rfl, rfl, ((j + 1 : Nat) : Int), rfl, l, _, rfl, SqL.of hl7, fun c2 hc => ?_⟩
    rw [cut_from]
    generalize hG : upd H7 c2 _ = H8
    have eH8 := exG hG hc
    have hc28 := atG hG
    clear hG hc
    have src8 := (src6.mono eH7).mono eH8
    refine ⟨m, c2, _, _, rfl, rfl, SqL.of (eH8 _ _ hm), SqL.of hc28, ?_, ?_⟩
    · rw [List.length_append, List.length_take, List.length_map, List.length_drop, List.length_map]
      exact Nat.le_trans (show min j ns.length + 1 + (ns.length - (j + 1)) ≤ 10 by omega) (by decide)
    (intro b nb; generalize hGb : upd _ b _ = H9; have eH9 := exG hGb nb; have hb := atG hGb; clear hGb)
    have nbs := src8.ne nb
    have src9 := src8.mono eH9
    dsimp only [gName]
    show tSeq _ _ _ [_, _, _, _, _] _
    obtain ⟨xs, hxs⟩ : ∃ xs : List Int, (ns.map V.int).take j = xs.map V.int ∧ xs.length ≤ 4 ∧ ∀ n ∈ xs, n ∈ ns := ⟨ns.take j, by rw [List.map_take], by rw [List.length_take]; omega, fun n hn => List.mem_of_mem_take hn⟩
    obtain ⟨ys, hys⟩ : ∃ ys : List Int, (ns.map V.int).drop (j + 1) = ys.map V.int ∧ ys.length ≤ 4 ∧ ∀ n ∈ ys, n ∈ ns := ⟨ns.drop (j + 1), by rw [List.map_drop], by rw [List.length_drop]; omega, fun n hn => List.mem_of_mem_drop hn⟩
    obtain ⟨e1, lx, mx⟩ := hxs
    obtain ⟨e2, ly, my⟩ := hys
    rw [e1, e2] at hb
    have X9 : XB s H H9 := xb1.trans ((XB.of eH2).trans (xb16.trans (XB.of (ext eH7 (ext eH8 eH9)))))
    have all9 : DqAll (· ≠ s) H9 (xs.map V.int ++ [o] ++ ys.map V.int) (xs.map PyData.int ++ [od] ++ ys.map PyData.int) := ((DqAll.ints xs).app (.cons (qo6.mono (ext eH7 (ext eH8 eH9))) .nil)).app (DqAll.ints ys)
    have sb : ∀ x ∈ ns, x.natAbs < 2 ^ 300 := fun x hx => by
      have h1 := ok.one x hx
      have h2 := le x hx
      exact Nat.lt_of_le_of_lt (show x.natAbs ≤ 10 ^ 27 by omega) (by decide +kernel)
    have sall : ∀ e ∈ xs.map PyData.int ++ [od] ++ ys.map PyData.int, Sx 1 2000 e ∧ Sk e.shown := fun e he => by
      rcases List.mem_append.mp he with he | he
      · rcases List.mem_append.mp he with he | he
        · exact s_ints (fun x hx => sb x (mx x hx)) e he
        · rw [List.mem_singleton.mp he]
          exact bo.2
      · exact s_ints (fun x hx => sb x (my x hx)) e he
    have lall : (xs.map PyData.int ++ [od] ++ ys.map PyData.int).length ≤ 10 := by
      simp only [List.length_append, List.length_map, List.length_cons, List.length_nil]
      omega
    have rb := rgBad_bent (xs := xs) (ys := ys) bo.1
    have lb : ((xs.map V.int ++ [o] ++ ys.map V.int)).length ≤ 10 := by
      simp only [List.length_append, List.length_map, List.length_cons, List.length_nil]
      omega
    generalize xs.map PyData.int ++ [od] ++ ys.map PyData.int = ds at all9 sall lall rb
    generalize xs.map V.int ++ [o] ++ ys.map V.int = vs at hb all9 lb
    clear e1 e2 lx ly mx my xb1 xb3 xb5 xb16 hc2 hc6 hc28 hm hol hil qo qo0 qo6 qv qv4 two go mo hl7 eH2 eH4 eH6 eH7 eH8 eH9 sb src8 src6 src5 src4 src3 src2 src1
    refine fun d4 nd4 => ?_
    generalize hG : upd H9 d4 _ = G1
    have eG1 := exG hG nd4
    have hd4 := atG hG
    clear hG
    refine ⟨slen rfl, ?_⟩
    (intro a5 na5; generalize hGa5 : upd _ a5 _ = G2; have eG2 := exG hGa5 na5; have ha5 := atG hGa5; clear hGa5)
    refine ⟨slen rfl, ?_⟩
    (intro a6 na6; generalize hGa6 : upd _ a6 _ = G3; have eG3 := exG hGa6 na6; have ha6 := atG hGa6; clear hGa6)
    refine ⟨slen rfl, ?_⟩
    (intro u7 nu7; generalize hGu7 : upd _ u7 _ = G4; have eG4 := exG hGu7 nu7; have hu7 := atG hGu7; clear hGu7)
    refine ⟨u7, 5, [.int 1], rfl, rfl, hu7, by decide, by decide, by show 1 * 5 ≤ sizeLine; decide, ?_⟩
    (intro a7 na7; generalize hGa7 : upd _ a7 _ = G5; have eG5 := exG hGa7 na7; have ha7 := atG hGa7; clear hGa7)
    have e15 := ext eG1 (ext eG2 (ext eG3 (ext eG4 eG5)))
    refine ⟨_, rfl, _, rfl, b, _, rfl, .inl ⟨SqL.of (e15 _ _ hb), ?_⟩⟩
    (intro t9 nt9; generalize hGt9 : upd _ t9 _ = G6; have eG6 := exG hGt9 nt9; have ht9 := atG hGt9; clear hGt9)
    refine fun d10 nd10 => ⟨upd_same, [(.inl 3, .int 4)], rfl, by show 1 ≤ 15; decide, ?_⟩
    generalize hG : upd (upd G6 d10 _) d10 _ = G7
    have eG7 : Ex G6 G7 := fun c o q => by
      rw [← hG, upd_ne (ne_of_none q nd10), upd_ne (ne_of_none q nd10)]
      exact q
    have hd10 := atG hG
    clear hG
    refine ⟨_, rfl, slen rfl, ?_⟩
    (intro wl nwl; generalize hGwl : upd _ wl _ = G8; have eG8 := exG hGwl nwl; have hwl := atG hGwl; clear hGwl)
    have e68 := ext eG7 eG8
    have e58 := ext eG6 e68
    have e48 := ext eG5 e58
    have e38 := ext eG4 e48
    have e28 := ext eG3 e38
    have e18 := ext eG2 e28
    have e08 := ext eG1 e18
    have s1 := src9.mono eG1
    have s2 := s1.mono eG2
    have s3 := s2.mono eG3
    have s4 := s3.mono eG4
    have s5 := s4.mono eG5
    have s6 := s5.mono eG6
    have s7 := s6.mono eG7
    have s8 := s7.mono eG8
    have all8 := all9.mono e08
    have hb8 := e08 _ _ hb
    have nwls := s7.ne nwl
    have na5s := s1.ne na5
    have na7s := s4.ne na7
    have nd10s := s6.ne nd10
    have rd : ∀ {d : PyData}, Shn d → seqD d = none → BadRD d := fun h e => ⟨h, by rw [e]; rfl, fun ds z => by rw [e] at z; cases z⟩
    have bent : BadR s G8 (.ref b) := .inl ⟨.list ds, .lst hb8 nbs all8, shn_list lall sall, rb, fun ds2 z => by obtain rfl := Option.some.inj z; omega⟩
    have all : ∀ v ∈ [V.non, .int 5, .str "12", .ref d4, .ref a5, .ref a6, .ref a7, .ref b, .ref t9, .ref d10, .ref b], BadR s G8 v := fun v hv => by
      simp only [List.mem_cons, List.not_mem_nil, or_false] at hv
      rcases hv with rfl | rfl | rfl | rfl | rfl | rfl | rfl | rfl | rfl | rfl | rfl
      · exact .inl ⟨_, .non, rd shn_none rfl⟩
      · exact .inl ⟨_, .int 5, rd (shn_of (s_int (by decide))) rfl⟩
      · exact .inl ⟨_, .str _, rd (shn_word (by decide +kernel) (by decide +kernel)) rfl⟩
      · exact .inl ⟨_, .emp (e18 _ _ hd4), rd shn_emp rfl⟩
      · exact .inl ⟨.list [], .lst (e28 _ _ ha5) na5s .nil, shn_list (by simp) (by simp), rfl, fun ds2 z => by obtain rfl := Option.some.inj z; simp⟩
      · exact .inl ⟨.tuple [], .tup (e38 _ _ ha6) .nil, shn_tup (by simp) (by simp), rfl, fun ds2 z => by obtain rfl := Option.some.inj z; simp⟩
      · exact .inl ⟨.list [.int 1, .int 1, .int 1, .int 1, .int 1], .lst (e58 _ _ ha7) na7s (.cons (.int 1) (.cons (.int 1) (.cons (.int 1) (.cons (.int 1) (.cons (.int 1) .nil))))), shn_list (by simp) (fun e he => by
          simp only [List.mem_cons, List.not_mem_nil, or_false, or_self] at he
          rw [he]
          exact s_int (by decide)), rfl, fun ds2 z => by obtain rfl := Option.some.inj z; simp⟩
      · exact bent
      · exact .inl ⟨.tuple ds, .tup (e68 _ _ ht9) all8, shn_tup lall sall, rb, fun ds2 z => by obtain rfl := Option.some.inj z; omega⟩
      · exact .inr ⟨d10, rfl, nd10s, eG8 _ _ hd10⟩
      · exact bent
    dsimp only [gName]
    refine ⟨_, rfl, _, rfl, s, 11, rfl, s8, by decide, by decide +kernel, fun r GA r0 r1 xb srcA => ?_⟩
    obtain ⟨i, rfl⟩ := Int.eq_ofNat_of_zero_le r0
    have il : i < ([V.non, .int 5, .str "12", .ref d4, .ref a5, .ref a6, .ref a7, .ref b, .ref t9, .ref d10, .ref b]).length := by show i < 11; omega
    have hi := List.getElem?_eq_getElem il
    exact ⟨wl, _, _, _, rfl, rfl, SqL.of (xb _ _ nwls hwl), atI_nn hi, k _ _ ((all _ (List.getElem_mem il)).xn s8 (.xb xb)) (X9.trans ((XB.of e08).trans xb)) srcA⟩
end

/-- data that is no seat of a table -/
structure BadS (ns : List Int) (d : PyData) : Prop where
  sh : Shn d
  no : isSeatO ns (oT d) = false
  short : ShortT d
theorem badS_any {ns : List Int} {d : PyData} (h : Shn d) (e : tupD d = none) : BadS ns d := ⟨h, by unfold oT; rw [e]; rfl, fun es z => by rw [e] at z; cases z⟩
theorem badS_len {ns : List Int} {ds : List PyData} (h : Shn (.tuple ds)) (l : ds.length ≠ ns.length) (l2 : ds.length ≤ 1000) : BadS ns (.tuple ds) := ⟨h, by
  show (decide ((ds.map intD).length = ns.length) && _) = false
  rw [List.length_map, decide_eq_false l, Bool.false_and], fun es z => by obtain rfl := Option.some.inj z; exact l2⟩
theorem badS_at {ns : List Int} {ds : List PyData} {j : Nat} {o : PyData} {n : Int} (h : Shn (.tuple ds)) (l2 : ds.length ≤ 1000) (ho : ds[j]? = some o) (hn : ns[j]? = some n) (b : between (intD o) 0 (n - 1) = false) : BadS ns (.tuple ds) := ⟨h, by
  show (_ && (List.zipWith (fun o n => between o 0 (n - 1)) (ds.map intD) ns).all id) = false
  have : (List.zipWith (fun o n => between o 0 (n - 1)) (ds.map intD) ns).all id = false := by
    rw [List.all_eq_false]
    refine ⟨false, List.mem_of_getElem? (i := j) ?_, by simp⟩
    rw [List.getElem?_zipWith, List.getElem?_map, ho, hn]
    show some (between (intD o) 0 (n - 1)) = some false
    rw [b]
  rw [this, Bool.and_false], fun es z => by obtain rfl := Option.some.inj z; exact l2⟩
section
variable {P : Program} {w : World} {K : PySem.W.Frag} {mg : Str → Option Value} {base : Heap}
def sp_law_bad_seat : Sp := fun vs H Q _ => ∃ (s l : Addr) (ns : List Int), vs = [.ref s, .ref l] ∧ Src H s ∧ H l = some (.lst (ns.map V.int)) ∧ l ≠ s ∧ SzOk ns ∧ (∀ n ∈ ns, n ≤ 10 ^ 27) ∧ ∀ v d H2, Dq (· ≠ s) H2 v d → BadS ns d → XB s H H2 → Src H2 s → Q v H2
theorem ok_law_bad_seat (T : TX K mg) : FnOk P w K mg base CX0 4 T.f_law_bad_seat T.fd_law_bad_seat ["_law_source_here", "_law_sizes"] sp_law_bad_seat := by
  refine T.F_law_bad_seat.ok sc_law_bad_seat (fun vs H Q E h => ?_) (fun cdv A outer s H vs Q E hr h => ?_)
  · obtain ⟨s, l, ns, rfl, _⟩ := h
    rfl
  · obtain ⟨s, l, ns, rfl, src, hl, nls, ok, le, k⟩ := h
    refine ⟨_, (pss_cons (ps_set (i := 2) sc_law_bad_seat.nd rfl (Or.inl rfl) (pe_callTy call_tuple_of (by rfl) T.z_tuple (by decide +kernel) (pa_cons (pe_lc (own := [("_law_size", 7)]) (g := (gName 7)) rfl sc_law_bad_seat.nd (pi_list (pv 1)) (blkOk_by (N := N_law_bad_seat) (sc := defScope s_law_bad_seat) (by decide +kernel)) (fun _ _ _ _ _ => (pg_name (i := 7) sc_law_bad_seat.nd rfl (Or.inl rfl))) (fun _ _ _ _ _ => pts_nil) (fun _ _ _ _ _ => (pe_op op_sub (pv 7) pe_int))) pa_nil))) (pss_cons (ps_set (i := 3) sc_law_bad_seat.nd rfl (Or.inl rfl) (pe_call (ok_law_take T) (hr.mono (by decide)) rfl T.m_law_take T.F_law_take.kp T.b_law_take .nil pass0 (pa_cons (pv 0) (pa_cons (pe_callB call_len_seq (by rfl) T.z_len (by decide +kernel) (pa_cons (pv 1) pa_nil)) pa_nil)))) (pss_cons (ps_set (i := 4) sc_law_bad_seat.nd rfl (Or.inl rfl) (pe_ix ix_list (pe_lst (pa_cons (pe_call (ok_law_odd_value T) hr rfl T.m_law_odd_value T.F_law_odd_value.kp T.b_law_odd_value .nil pass0 (pa_cons (pv 0) pa_nil)) (pa_cons (pe_ix ix_list (pv 1) (pv 3) (fun _ _ => rfl)) pa_nil))) (pe_call (ok_law_take T) (hr.mono (by decide)) rfl T.m_law_take T.F_law_take.kp T.b_law_take .nil pass0 (pa_cons (pv 0) (pa_cons pe_int pa_nil))) (fun _ _ => rfl))) (pss_cons (ps_set (i := 5) sc_law_bad_seat.nd rfl (Or.inl rfl) (pe_op (r := rCatA K) op_catA (pe_op (r := rCatA K) op_catA (pe_slice sl_tupA (pv 2) po_none (po_some (pv 3))) (pe_tup (pa_cons (pv 4) pa_nil))) (pe_slice sl_tupA (pv 2) (po_some (pe_op op_add (pv 3) pe_int)) po_none))) (pss_cons (ps_set (i := 6) sc_law_bad_seat.nd rfl (Or.inl rfl) (pe_lst (pa_cons pe_non (pa_cons (pe_callTy call_list_of (by rfl) T.z_list (by decide +kernel) (pa_cons (pv 2) pa_nil)) (pa_cons (pe_op (r := rCatA K) op_catA (pv 2) (pe_tup (pa_cons pe_int pa_nil))) (pa_cons (pe_slice sl_tupA (pv 2) (po_some pe_int) po_none) (pa_cons pe_int (pa_cons pe_str (pa_cons pe_dnewK (pa_cons (pv 5) (pa_cons (pv 5) (pa_cons (pv 5) pa_nil)))))))))))) (pss_one (ps_ret (pe_ix ix_list (pv 6) (pe_call (ok_law_take T) (hr.mono (by decide)) rfl T.m_law_take T.F_law_take.kp T.b_law_take .nil pass0 (pa_cons (pv 0) (pa_cons pe_int pa_nil))) (fun _ _ => rfl))))))))), ?_⟩
    have l4 := ok.le
    have lp : 1 ≤ ns.length := List.length_pos_iff.mpr ok.pos
    refine ⟨_, rfl, l, rfl, ⟨_, SqL.of hl⟩, fun D hD => ?_⟩
    refine lc_vals (walk_list (xs := ns.map V.int)) ((ns.map fun n => n - 1).map V.int) (by rw [List.length_map, List.length_map, List.length_map]) (by rw [List.length_map]; omega) hD (fun Hx e => SqL.of (e _ _ hl)) ?_ gmono_name ?_
    · rintro i x Ha Hb R hi e ⟨rfl, hx⟩ kk
      obtain ⟨m, hm, rfl⟩ := map_get hx
      refine ⟨rfl, _, rfl, _, _, rfl, rfl, kk _ _ exr ?_⟩
      rw [List.getElem?_map, List.getElem?_map, hm]
      rfl
    intro HD eD hDD
    refine ⟨D, _, rfl, .inl ⟨SqL.of hDD, ?_⟩⟩
    (intro gd ngd; generalize hGgd : upd _ gd _ = H1; have eH1 := exG hGgd ngd; have hgd := atG hGgd; clear hGgd)
    have e1 := ext eD eH1
    have hl1 := e1 _ _ hl
    have src1 := src.mono e1
    dsimp only [gName]
    show tSeq _ _ _ [_, _, _, _, _, _, _, _] _
    refine ⟨_, rfl, _, rfl, l, _, rfl, .inl (SqL.of hl1), s, ns.length, by rw [List.length_map]; rfl, src1, by omega, Nat.lt_of_le_of_lt (show ((ns.length : Int)).natAbs ≤ 4 by omega) (by decide +kernel), fun r H2 r0 r1 xb2 src2 => ?_⟩
    obtain ⟨j, rfl⟩ := Int.eq_ofNat_of_zero_le r0
    have jl : j < ns.length := by omega
    have hl2 := xb2 _ _ nls hl1
    have hgd2 := tup_xb src1 hgd xb2
    dsimp only [gName]
    show tSeq _ _ _ [_, _, _, _, _, _, _, _] _
    refine ⟨_, rfl, s, rfl, src2, fun v d H3 qv md xb3 src3 => ?_⟩
    have hl3 := xb3 _ _ nls hl2
    have hgd3 := tup_xb src2 hgd2 xb3
    obtain ⟨n, hn⟩ : ∃ n, ns[j]? = some n := ⟨ns[j], List.getElem?_eq_getElem jl⟩
    refine ⟨_, rfl, _, rfl, l, _, _, _, rfl, rfl, SqL.of hl3, atI_nn (v := V.int n) (by rw [List.getElem?_map, hn]; rfl), slen rfl, ?_⟩
    (intro il nil; generalize hGil : upd _ il _ = H4; have eH4 := exG hGil nil; have hil := atG hGil; clear hGil)
    have nils := src3.ne nil
    have src4 := src3.mono eH4
    refine ⟨_, rfl, s, 2, rfl, src4, by decide, by decide +kernel, fun r2 H5 q0 q1 xb5 src5 => ?_⟩
    have two : DqAll (· ≠ s) H4 [v, .int n] [d, .int n] := .cons (qv.mono eH4) (.cons (.int n) .nil)
    obtain ⟨_, o, od, _, _, go, _, mo, qo0⟩ := two.at q0 (by simpa using q1)
    have qo := qo0.xb src4 xb5
    have n1 : 1 ≤ n := ok.one n (List.mem_of_getElem? hn)
    have nb : n.natAbs < 2 ^ 300 := Nat.lt_of_le_of_lt (show n.natAbs ≤ 10 ^ 27 by have := le n (List.mem_of_getElem? hn); omega) (by decide +kernel)
    have bo : between (intD od) 0 (n - 1) = false ∧ (Sx 1 2000 od ∧ Sk od.shown) := by
      simp only [List.mem_cons, List.not_mem_nil, or_false] at mo
      rcases mo with rfl | rfl
      · refine ⟨?_, odd_s md⟩
        simp only [oddL, List.mem_cons, List.not_mem_nil, or_false] at md
        rcases md with rfl | rfl | rfl | rfl | rfl | rfl | rfl | rfl | rfl | rfl <;> rfl
      · refine ⟨?_, s_int nb⟩
        show (decide (0 ≤ n) && decide (n ≤ n - 1)) = false
        rw [decide_eq_false (p := n ≤ n - 1) (by omega), Bool.and_false]
    refine ⟨il, _, _, _, rfl, rfl, SqL.of (xb5 _ _ nils hil), go, ?_⟩
    have hgd5 := tup_xb src4 (eH4 _ _ hgd3) xb5
    have X5 : XB s H H5 := (XB.of e1).trans (xb2.trans (xb3.trans ((XB.of eH4).trans xb5)))
    clear two qo0 go mo qv xb5 xb3 xb2 src4 src3 src2 src1 hil nils eH4 hl3 hl2 hl1 hgd3 hgd2 hgd e1 hDD hD eD eH1 ngd
    dsimp only [gName]
    show tSeq _ _ _ [_, _, _, _, _, _, _, _] _
    have lg : (ns.map fun n => n - 1).length = ns.length := by rw [List.length_map]
    have sg : ∀ x ∈ (ns.map fun n => n - 1), x.natAbs < 2 ^ 300 := fun x hx => by
      obtain ⟨y, hy, rfl⟩ := List.mem_map.mp hx
      have h1 := ok.one y hy
      have h2 := le y hy
      exact Nat.lt_of_le_of_lt (show (y - 1).natAbs ≤ 10 ^ 27 by omega) (by decide +kernel)
    generalize (ns.map fun n => n - 1) = gs at hgd5 lg sg
    refine ⟨_, rfl, _, rfl, j, rfl, sl_ints hgd5 fun v1 G1 e1 h1 => ?_⟩
    rw [cut_to] at h1
    refine ⟨_, rfl, slen rfl, ?_⟩
    (intro t2 nt2; generalize hGt2 : upd _ t2 _ = G2; have eG2 := exG hGt2 nt2; have ht2 := atG hGt2; clear hGt2)
    refine cat_tup (eG2 _ _ h1) ht2 (by rw [List.length_take, List.length_map]; exact Nat.le_trans (show min j gs.length + 1 ≤ 10 by omega) (by decide)) fun v3 G3 e3 h3 => ?_
    have hgd3 := (ext e1 (ext eG2 e3)) _ _ hgd5
    unfold tNoPart
    refine ⟨_, rfl, _, rfl, _, _, rfl, rfl, ((j + 1 : Nat) : Int), rfl, sl_ints hgd3 fun v4 G4 e4 h4 => ?_⟩
    rw [cut_from] at h4
    refine cat_tup (e4 _ _ h3) h4 (by rw [List.length_append, List.length_take, List.length_drop, List.length_map]; exact Nat.le_trans (show min j gs.length + 1 + (gs.length - (j + 1)) ≤ 10 by omega) (by decide)) fun b G5 e5 hb => ?_
    dsimp only [gName]
    show tSeq _ _ _ [_, _, _, _, _, _, _, _] _
    have eG5 := ext e1 (ext eG2 (ext e3 (ext e4 e5)))
    have all5 : DqAll (· ≠ s) G5 ((gs.map V.int).take j ++ [o] ++ (gs.map V.int).drop (j + 1)) ((gs.take j).map PyData.int ++ [od] ++ (gs.drop (j + 1)).map PyData.int) := by
      rw [← List.map_take, ← List.map_drop]
      exact ((DqAll.ints _).app (.cons (qo.mono eG5) .nil)).app (DqAll.ints _)
    have sbent : ∀ e ∈ (gs.take j).map PyData.int ++ [od] ++ (gs.drop (j + 1)).map PyData.int, Sx 1 2000 e ∧ Sk e.shown := fun e he => by
      rcases List.mem_append.mp he with he | he
      · rcases List.mem_append.mp he with he | he
        · exact s_ints (fun x hx => sg x (List.mem_of_mem_take hx)) e he
        · rw [List.mem_singleton.mp he]
          exact bo.2
      · exact s_ints (fun x hx => sg x (List.mem_of_mem_drop hx)) e he
    have lbent : ((gs.take j).map PyData.int ++ [od] ++ (gs.drop (j + 1)).map PyData.int).length ≤ 10 := by
      rw [List.length_append, List.length_append, List.length_map, List.length_map, List.length_take, List.length_drop]
      show min j gs.length + 1 + (gs.length - (j + 1)) ≤ 10
      omega
    have atj : ((gs.take j).map PyData.int ++ [od] ++ (gs.drop (j + 1)).map PyData.int)[j]? = some od := by
      have lj : ((gs.take j).map PyData.int).length = j := by rw [List.length_map, List.length_take]; omega
      rw [List.append_assoc, List.getElem?_append_right (by rw [lj]; exact Nat.le_refl _), lj, Nat.sub_self]
      rfl
    have badB := badS_at (ns := ns) (shn_tup lbent sbent) (by omega) atj hn bo.1
    generalize (gs.take j).map PyData.int ++ [od] ++ (gs.drop (j + 1)).map PyData.int = bds at all5 sbent lbent atj badB
    have hgdB := eG5 _ _ hgd5
    have srcB := src5.mono eG5
    clear h1 h3 h4 ht2 hgd3 e1 eG2 e3 e4 e5
    refine ⟨_, rfl, gd, _, rfl, .inr (SqT.of hgdB), ?_⟩
    (intro la nla; generalize hGla : upd _ la _ = K1; have eK1 := exG hGla nla; have hla := atG hGla; clear hGla)
    have hgd1 := eK1 _ _ hgdB
    refine ⟨_, rfl, slen rfl, ?_⟩
    (intro z1 nz1; generalize hGz1 : upd _ z1 _ = K2; have eK2 := exG hGz1 nz1; have hz1 := atG hGz1; clear hGz1)
    refine cat_tup (eK2 _ _ hgd1) hz1 (by rw [List.length_map]; exact Nat.le_trans (show gs.length + 1 ≤ 10 by omega) (by decide)) fun t3 K3 e3 ht3 => ?_
    have hgd3 := (ext eK2 e3) _ _ hgd1
    refine ⟨_, rfl, ((1 : Nat) : Int), rfl, sl_ints hgd3 fun t4 K4 e4 ht4 => ?_⟩
    rw [cut_from] at ht4
    refine fun d5 nd5 => ?_
    generalize hG : upd K4 d5 _ = K5
    have eK5 := exG hG nd5
    have hd5 := atG hG
    clear hG
    refine ⟨_, rfl, _, rfl, _, rfl, slen rfl, ?_⟩
    (intro wl nwl; generalize hGwl : upd _ wl _ = K6; have eK6 := exG hGwl nwl; have hwl := atG hGwl; clear hGwl)
    have e56 := ext eK5 eK6
    have e36 := ext e4 e56
    have e26 := ext e3 e36
    have e16 := ext eK2 e26
    have e06 := ext eK1 e16
    have src6 := srcB.mono e06
    have nlas := srcB.ne nla
    have nwls := (srcB.mono (ext eK1 (ext eK2 (ext e3 (ext e4 eK5))))).ne nwl
    have all6 := all5.mono e06
    have hb6 := e06 _ _ hb
    have sgl : ∀ e ∈ gs.map PyData.int, Sx 1 2000 e ∧ Sk e.shown := s_ints sg
    have all : DqAll (· ≠ s) K6 [V.non, .ref la, .ref t3, .ref t4, .int 0, .str "0", .ref d5, .ref b, .ref b, .ref b] [.none, .list (gs.map PyData.int), .tuple (gs.map PyData.int ++ [.int 0]), .tuple ((gs.drop 1).map PyData.int), .int 0, .str "0", .dict [], .tuple bds, .tuple bds, .tuple bds] :=
      .cons .non (.cons (.lst (e16 _ _ hla) nlas (DqAll.ints gs)) (.cons (.tup (e36 _ _ ht3) ((DqAll.ints gs).app (.cons (.int 0) .nil))) (.cons (.tup (e56 _ _ ht4) (by rw [← List.map_drop]; exact DqAll.ints _)) (.cons (.int 0) (.cons (.str _) (.cons (.emp (eK6 _ _ hd5)) (.cons (.tup hb6 all6) (.cons (.tup hb6 all6) (.cons (.tup hb6 all6) .nil)))))))))
    have bads : ∀ d ∈ ([.none, .list (gs.map PyData.int), .tuple (gs.map PyData.int ++ [.int 0]), .tuple ((gs.drop 1).map PyData.int), .int 0, .str "0", .dict [], .tuple bds, .tuple bds, .tuple bds] : List PyData), BadS ns d := fun d hd => by
      simp only [List.mem_cons, List.not_mem_nil, or_false] at hd
      rcases hd with rfl | rfl | rfl | rfl | rfl | rfl | rfl | rfl | rfl | rfl
      · exact badS_any shn_none rfl
      · exact badS_any (shn_list (by rw [List.length_map]; omega) sgl) rfl
      · exact badS_len (shn_tup (by rw [List.length_append, List.length_map]; show gs.length + 1 ≤ 10; omega) (s_snoc sgl (s_int (by decide)))) (by rw [List.length_append, List.length_map]; show gs.length + 1 ≠ _; omega) (by rw [List.length_append, List.length_map]; show gs.length + 1 ≤ _; omega)
      · exact badS_len (shn_tup (by rw [List.length_map, List.length_drop]; omega) (s_ints fun x hx => sg x (List.mem_of_mem_drop hx))) (by rw [List.length_map, List.length_drop]; omega) (by rw [List.length_map, List.length_drop]; omega)
      · exact badS_any (shn_of (s_int (by decide))) rfl
      · exact badS_any (shn_word (by decide +kernel) (by decide +kernel)) rfl
      · exact badS_any shn_emp rfl
      · exact badB
      · exact badB
      · exact badB
    dsimp only [gName]
    refine ⟨_, rfl, _, rfl, s, 10, rfl, src6, by decide, by decide +kernel, fun r KA r0 r1 xb srcA => ?_⟩
    obtain ⟨_, vv, dv, _, _, gv, _, mv, qv0⟩ := all.at r0 (by simpa using r1)
    exact ⟨wl, _, _, _, rfl, rfl, SqL.of (xb _ _ nwls hwl), gv, k vv dv _ (qv0.xb src6 xb) (bads dv mv) (X5.trans ((XB.of (ext eG5 e06)).trans xb)) srcA⟩
end

/-- data that is no call for a table -/
structure BadC (ns : List Int) (d : PyData) : Prop where
  sh : Shn d
  no : isCallO ns (oT d) = false
  short : ShortT d
theorem badC_any {ns : List Int} {d : PyData} (h : Shn d) (e : tupD d = none) : BadC ns d := ⟨h, by unfold oT; rw [e]; rfl, fun es z => by rw [e] at z; cases z⟩
theorem badC_len {ns : List Int} {ds : List PyData} (h : Shn (.tuple ds)) (l : ds.length ≠ ns.length) (l2 : ds.length ≤ 1000) : BadC ns (.tuple ds) := ⟨h, by
  show (decide ((ds.map intD).length = ns.length) && _) = false
  rw [List.length_map, decide_eq_false l, Bool.false_and], fun es z => by obtain rfl := Option.some.inj z; exact l2⟩
theorem badC_at {ns : List Int} {ds : List PyData} {o : PyData} (h : Shn (.tuple ds)) (l2 : ds.length ≤ 1000) (ho : o ∈ ds) (b : intD o = none) : BadC ns (.tuple ds) := ⟨h, by
  show (_ && ((ds.map intD).map Option.isSome).all id) = false
  have : ((ds.map intD).map Option.isSome).all id = false := by
    rw [List.all_eq_false]
    exact ⟨false, List.mem_map.mpr ⟨none, List.mem_map.mpr ⟨o, ho, b⟩, rfl⟩, by simp⟩
  rw [this, Bool.and_false], fun es z => by obtain rfl := Option.some.inj z; exact l2⟩
section
variable {P : Program} {w : World} {K : PySem.W.Frag} {mg : Str → Option Value} {base : Heap}
def sp_law_bad_call : Sp := fun vs H Q _ => ∃ (s l : Addr) (ns : List Int), vs = [.ref s, .ref l] ∧ Src H s ∧ H l = some (.lst (ns.map V.int)) ∧ l ≠ s ∧ SzOk ns ∧ ∀ v d H2, Dq (· ≠ s) H2 v d → BadC ns d → XB s H H2 → Src H2 s → Q v H2
theorem ok_law_bad_call (T : TX K mg) : FnOk P w K mg base CX0 3 T.f_law_bad_call T.fd_law_bad_call ["_law_source_here", "_law_sizes"] sp_law_bad_call := by
  refine T.F_law_bad_call.ok sc_law_bad_call (fun vs H Q E h => ?_) (fun cdv A outer s H vs Q E hr h => ?_)
  · obtain ⟨s, l, ns, rfl, _⟩ := h
    rfl
  · obtain ⟨s, l, ns, rfl, src, hl, nls, ok, k⟩ := h
    refine ⟨_, (pss_cons (ps_set (i := 2) sc_law_bad_call.nd rfl (Or.inl rfl) (pe_op (r := rRepA K) op_repA (pe_tup (pa_cons pe_int pa_nil)) (pe_callB call_len_seq (by rfl) T.z_len (by decide +kernel) (pa_cons (pv 1) pa_nil)))) (pss_cons (ps_set (i := 3) sc_law_bad_call.nd rfl (Or.inl rfl) (pe_ix ix_list (pe_lst (pa_cons pe_non (pa_cons pe_bl (pa_cons pe_bl (pa_cons pe_str (pa_cons (pe_tup (pa_cons pe_int pa_nil)) (pa_cons (pe_lst (pa_cons pe_int pa_nil)) (pa_cons pe_dnewK (pa_cons pe_str pa_nil))))))))) (pe_call (ok_law_take T) hr rfl T.m_law_take T.F_law_take.kp T.b_law_take .nil pass0 (pa_cons (pv 0) (pa_cons pe_int pa_nil))) (fun _ _ => rfl))) (pss_cons (ps_set (i := 4) sc_law_bad_call.nd rfl (Or.inl rfl) (pe_lst (pa_cons pe_non (pa_cons (pe_callTy call_list_of (by rfl) T.z_list (by decide +kernel) (pa_cons (pv 2) pa_nil)) (pa_cons (pe_op (r := rCatA K) op_catA (pv 2) (pe_tup (pa_cons pe_int pa_nil))) (pa_cons (pe_slice sl_tupA (pv 2) (po_some pe_int) po_none) (pa_cons pe_int (pa_cons pe_str (pa_cons pe_dnewK (pa_cons (pe_op (r := rCatA K) op_catA (pe_slice sl_tupA (pv 2) (po_some pe_int) po_none) (pe_tup (pa_cons (pv 3) pa_nil))) (pa_cons (pe_op (r := rCatA K) op_catA (pe_slice sl_tupA (pv 2) (po_some pe_int) po_none) (pe_tup (pa_cons (pv 3) pa_nil))) pa_nil))))))))))) (pss_one (ps_ret (pe_ix ix_list (pv 4) (pe_call (ok_law_take T) hr rfl T.m_law_take T.F_law_take.kp T.b_law_take .nil pass0 (pa_cons (pv 0) (pa_cons pe_int pa_nil))) (fun _ _ => rfl))))))), ?_⟩
    have l4 := ok.le
    have lp : 1 ≤ ns.length := List.length_pos_iff.mpr ok.pos
    refine ⟨slen rfl, ?_⟩
    (intro o1 no1; generalize hGo1 : upd _ o1 _ = H1; have eH1 := exG hGo1 no1; have ho1 := atG hGo1; clear hGo1)
    refine ⟨_, rfl, l, _, rfl, .inl (SqL.of (eH1 _ _ hl)), rep_ints ho1 (by rw [List.length_map]; omega) (by rw [List.length_map]; omega) fun gd H2 e2 hgd2 => ?_⟩
    rw [List.length_map, show ((ns.length : Nat) : Int).toNat = ns.length from rfl] at hgd2
    have lg : (List.replicate ns.length (1 : Int)).length = ns.length := by simp
    have sg : ∀ x ∈ List.replicate ns.length (1 : Int), x.natAbs < 2 ^ 300 := fun x hx => by
      rw [List.eq_of_mem_replicate hx]
      decide
    generalize List.replicate ns.length (1 : Int) = gs at hgd2 lg sg
    have src2 := src.mono (ext eH1 e2)
    dsimp only [gName]
    show tSeq _ _ _ [_, _, _, _, _] _
    refine ⟨slen rfl, ?_⟩
    (intro t4 nt4; generalize hGt4 : upd _ t4 _ = H3; have eH3 := exG hGt4 nt4; have ht4 := atG hGt4; clear hGt4)
    refine ⟨slen rfl, ?_⟩
    (intro l5 nl5; generalize hGl5 : upd _ l5 _ = H4; have eH4 := exG hGl5 nl5; have hl5 := atG hGl5; clear hGl5)
    refine fun d6 nd6 => ?_
    generalize hG : upd H4 d6 _ = H5
    have eH5 := exG hG nd6
    have hd6 := atG hG
    clear hG
    refine ⟨slen rfl, ?_⟩
    (intro ol nol; generalize hGol : upd _ ol _ = H6; have eH6 := exG hGol nol; have hol := atG hGol; clear hGol)
    have e36 := ext eH4 (ext eH5 eH6)
    have e26 := ext eH3 e36
    have nl5s := (src2.mono eH3).ne nl5
    have nols := (src2.mono (ext eH3 (ext eH4 eH5))).ne nol
    have src6 := src2.mono e26
    have dqo : DqAll (· ≠ s) H6 [V.non, .bl true, .bl false, .str "1", .ref t4, .ref l5, .ref d6, .str ""] [.none, .bool true, .bool false, .str "1", .tuple [.int 1], .list [.int 1], .dict [], .str ""] :=
      .cons .non (.cons (.bl _) (.cons (.bl _) (.cons (.str _) (.cons (.tup (e36 _ _ ht4) (.cons (.int 1) .nil)) (.cons (.lst ((ext eH5 eH6) _ _ hl5) nl5s (.cons (.int 1) .nil)) (.cons (.emp (eH6 _ _ hd6)) (.cons (.str _) .nil)))))))
    refine ⟨_, rfl, s, 8, rfl, src6, by decide, by decide +kernel, fun r H7 r0 r1 xb7 src7 => ?_⟩
    obtain ⟨_, o, od, _, _, go, _, mo, qo0⟩ := dqo.at r0 (by simpa using r1)
    have qo := qo0.xb src6 xb7
    have bo : intD od = none ∧ (Sx 1 2000 od ∧ Sk od.shown) := by
      simp only [List.mem_cons, List.not_mem_nil, or_false] at mo
      rcases mo with rfl | rfl | rfl | rfl | rfl | rfl | rfl | rfl
      · exact ⟨rfl, s_none⟩
      · exact ⟨rfl, s_bool true⟩
      · exact ⟨rfl, s_bool false⟩
      · exact ⟨rfl, s_word (by decide +kernel) (by decide +kernel)⟩
      · exact ⟨rfl, s_tup1⟩
      · exact ⟨rfl, s_lst1⟩
      · exact ⟨rfl, s_emp⟩
      · exact ⟨rfl, s_word (by decide +kernel) (by decide +kernel)⟩
    refine ⟨ol, _, _, _, rfl, rfl, SqL.of (xb7 _ _ nols hol), go, ?_⟩
    have hgd7 := tup_xb src6 (e26 _ _ hgd2) xb7
    have X7 : XB s H H7 := (XB.of (ext eH1 (ext e2 e26))).trans xb7
    clear dqo qo0 go mo hol hd6 hl5 ht4 hgd2 e26 e36 xb7 eH1 eH3 eH4 eH5 eH6 e2 src2 src6
    dsimp only [gName]
    show tSeq _ _ _ [_, _, _, _, _] _
    refine ⟨_, rfl, gd, _, rfl, .inr (SqT.of hgd7), ?_⟩
    (intro la nla; generalize hGla : upd _ la _ = K1; have eK1 := exG hGla nla; have hla := atG hGla; clear hGla)
    have hgd1 := eK1 _ _ hgd7
    refine ⟨_, rfl, slen rfl, ?_⟩
    (intro z1 nz1; generalize hGz1 : upd _ z1 _ = K2; have eK2 := exG hGz1 nz1; have hz1 := atG hGz1; clear hGz1)
    refine cat_tup (eK2 _ _ hgd1) hz1 (by rw [List.length_map]; exact Nat.le_trans (show gs.length + 1 ≤ 10 by omega) (by decide)) fun t3 K3 e3 ht3 => ?_
    have hgd3 := (ext eK2 e3) _ _ hgd1
    unfold tNoPart
    refine ⟨_, rfl, ((1 : Nat) : Int), rfl, sl_ints hgd3 fun t4 K4 e4 ht4 => ?_⟩
    rw [cut_from] at ht4
    refine fun d5 nd5 => ?_
    generalize hG : upd K4 d5 _ = K5
    have eK5 := exG hG nd5
    have hd5 := atG hG
    clear hG
    have hgd5 := (ext e4 eK5) _ _ hgd3
    refine ⟨_, rfl, ((1 : Nat) : Int), rfl, sl_ints hgd5 fun t6 K6 e6 ht6 => ?_⟩
    rw [cut_from] at ht6
    refine ⟨_, rfl, slen rfl, ?_⟩
    (intro u6 nu6; generalize hGu6 : upd _ u6 _ = K7; have eK7 := exG hGu6 nu6; have hu6 := atG hGu6; clear hGu6)
    refine cat_tup (eK7 _ _ ht6) hu6 (by rw [List.length_drop, List.length_map]; exact Nat.le_trans (show gs.length - 1 + 1 ≤ 10 by omega) (by decide)) fun b1 K8 e8 hb1 => ?_
    have hgd8 := (ext e6 (ext eK7 e8)) _ _ hgd5
    refine ⟨_, rfl, ((1 : Nat) : Int), rfl, sl_ints hgd8 fun t9 K9 e9 ht9 => ?_⟩
    rw [cut_from] at ht9
    refine ⟨_, rfl, slen rfl, ?_⟩
    (intro u9 nu9; generalize hGu9 : upd _ u9 _ = L1; have eL1 := exG hGu9 nu9; have hu9 := atG hGu9; clear hGu9)
    refine cat_tup (eL1 _ _ ht9) hu9 (by rw [List.length_drop, List.length_map]; exact Nat.le_trans (show gs.length - 1 + 1 ≤ 10 by omega) (by decide)) fun b2 L2 f2 hb2 => ?_
    refine ⟨slen rfl, ?_⟩
    (intro wl nwl; generalize hGwl : upd _ wl _ = L3; have eL3 := exG hGwl nwl; have hwl := atG hGwl; clear hGwl)
    have m2 := eL3
    have m8 := ext e9 (ext eL1 (ext f2 eL3))
    have m5 := ext e6 (ext eK7 (ext e8 m8))
    have m4 := ext eK5 m5
    have m3 := ext e4 m4
    have m1 := ext eK2 (ext e3 m3)
    have m0 := ext eK1 m1
    have src3 := src7.mono m0
    have nlas := src7.ne nla
    have nwls := (src7.mono (ext eK1 (ext eK2 (ext e3 (ext e4 (ext eK5 (ext e6 (ext eK7 (ext e8 (ext e9 (ext eL1 f2))))))))))).ne nwl
    have sgl : ∀ e ∈ gs.map PyData.int, Sx 1 2000 e ∧ Sk e.shown := s_ints sg
    have sdr : ∀ e ∈ (gs.drop 1).map PyData.int, Sx 1 2000 e ∧ Sk e.shown := s_ints fun x hx => sg x (List.mem_of_mem_drop hx)
    have qo3 := qo.mono m0
    have dqb : ∀ {b : Addr}, L3 b = some (.tup ((gs.map V.int).drop 1 ++ [o])) → Dq (· ≠ s) L3 (.ref b) (.tuple ((gs.drop 1).map PyData.int ++ [od])) := fun h => .tup h (by rw [← List.map_drop]; exact (DqAll.ints _).app (.cons qo3 .nil))
    have badB : BadC ns (.tuple ((gs.drop 1).map PyData.int ++ [od])) := badC_at (shn_tup (by rw [List.length_append, List.length_map, List.length_drop]; show gs.length - 1 + 1 ≤ 10; omega) (s_snoc sdr bo.2)) (by rw [List.length_append, List.length_map, List.length_drop]; show gs.length - 1 + 1 ≤ 1000; omega) (by simp) bo.1
    have all : DqAll (· ≠ s) L3 [V.non, .ref la, .ref t3, .ref t4, .int 1, .str "1", .ref d5, .ref b1, .ref b2] [.none, .list (gs.map PyData.int), .tuple (gs.map PyData.int ++ [.int 0]), .tuple ((gs.drop 1).map PyData.int), .int 1, .str "1", .dict [], .tuple ((gs.drop 1).map PyData.int ++ [od]), .tuple ((gs.drop 1).map PyData.int ++ [od])] :=
      .cons .non (.cons (.lst (m1 _ _ hla) nlas (DqAll.ints gs)) (.cons (.tup (m3 _ _ ht3) ((DqAll.ints gs).app (.cons (.int 0) .nil))) (.cons (.tup (m4 _ _ ht4) (by rw [← List.map_drop]; exact DqAll.ints _)) (.cons (.int 1) (.cons (.str _) (.cons (.emp (m5 _ _ hd5)) (.cons (dqb (m8 _ _ hb1)) (.cons (dqb (m2 _ _ hb2)) .nil))))))))
    have bads : ∀ d ∈ ([.none, .list (gs.map PyData.int), .tuple (gs.map PyData.int ++ [.int 0]), .tuple ((gs.drop 1).map PyData.int), .int 1, .str "1", .dict [], .tuple ((gs.drop 1).map PyData.int ++ [od]), .tuple ((gs.drop 1).map PyData.int ++ [od])] : List PyData), BadC ns d := fun d hd => by
      simp only [List.mem_cons, List.not_mem_nil, or_false] at hd
      rcases hd with rfl | rfl | rfl | rfl | rfl | rfl | rfl | rfl | rfl
      · exact badC_any shn_none rfl
      · exact badC_any (shn_list (by rw [List.length_map]; omega) sgl) rfl
      · exact badC_len (shn_tup (by rw [List.length_append, List.length_map]; show gs.length + 1 ≤ 10; omega) (s_snoc sgl (s_int (by decide)))) (by rw [List.length_append, List.length_map]; show gs.length + 1 ≠ _; omega) (by rw [List.length_append, List.length_map]; show gs.length + 1 ≤ _; omega)
      · exact badC_len (shn_tup (by rw [List.length_map, List.length_drop]; omega) sdr) (by rw [List.length_map, List.length_drop]; omega) (by rw [List.length_map, List.length_drop]; omega)
      · exact badC_any (shn_of (s_int (by decide))) rfl
      · exact badC_any (shn_word (by decide +kernel) (by decide +kernel)) rfl
      · exact badC_any shn_emp rfl
      · exact badB
      · exact badB
    dsimp only [gName]
    refine ⟨_, rfl, _, rfl, s, 9, rfl, src3, by decide, by decide +kernel, fun r KA r0 r1 xb srcA => ?_⟩
    obtain ⟨_, vv, dv, _, _, gv, _, mv, qv0⟩ := all.at r0 (by simpa using r1)
    exact ⟨wl, _, _, _, rfl, rfl, SqL.of (xb _ _ nwls hwl), gv, k vv dv _ (qv0.xb src3 xb) (bads dv mv) (X7.trans ((XB.of m0).trans xb)) srcA⟩
end

/-! ### what is raised, as a text -/
/-- the pair that tells an error -/
def TwoS (G : Hp) (r : Addr) (w : Str) (v : V) : Prop := G r = some (.tup [.str w, v])
def ErrR (K : PySem.W.Frag) (CT CS CC CD : Addr) (Q : VK) : XK := fun cls d G => ∃ (dd : Addr) (f w : Str) (x : V) (t : Str), d = some dd ∧ G dd = some (.xd [(f, x)]) ∧
  ((cls = .ref CT ∧ f = "rings" ∧ w = "table") ∨ (cls = .ref CS ∧ f = "seat" ∧ w = "seat") ∨ (cls = .ref CC ∧ f = "call" ∧ w = "call") ∨ (cls = .ref CD ∧ f = "direction" ∧ w = "direction")) ∧
  (∀ G2, Ex G G2 → CG.ShV K G2 x t) ∧ ∀ G2 r, Ex G G2 → TwoS G2 r w (.str t) → Q (.ref r) G2
/-- nothing is raised: ("none", "") -/
def NoneT (Q : VK) : VK := fun _ H1 => [V.str "none", V.str ""].length ≤ sizeLine ∧ ∀ p, H1 p = none → Q (.ref p) (upd H1 p (.tup [V.str "none", V.str ""]))
def TTerr (K : PySem.W.Frag) (CT CS CC CD : Addr) : (XK → Hp → VK → Prop) → Hp → VK → Prop := fun tl H Q => tl (ErrR K CT CS CC CD Q) H (NoneT Q)
section
variable {P : Program} {w : World} {K : PySem.W.Frag} {mg : Str → Option Value} {base : Heap}
theorem gives_law_raised (T : TX K mg) (L : TL T base) (k : Nat) : CG.Gives P w K mg base k N_law_raised "_law_raised" "_law_attempt" s_law_raised T.f_law_raised (TTerr K T.C_InvalidTable T.C_InvalidSeat T.C_InvalidCall T.C_InvalidDirection) := by
  intro A outer cdg f s H Q Rd tl gd hr act here h
  refine ⟨_, (pss_cons (ps_try_as1 (i := 1) rfl rfl sc_law_raised.nd rfl rfl ⟨rfl, by decide, Or.inl T.m_SeatError⟩ (fun W pn xe tk _ => pss_one (ps_expr (by exact (act W pn xe _ _ tk)))) (fun a oe cls d pn hz hf => (pss_cons (ps_set (i := 2) sc_law_raised.nd rfl (Or.inl rfl) (pe_lst (pa_cons (pe_callB (r := CG.rIsEG K cls d a) (CG.call_isEG hz hf) (by rfl) T.z_isinstance (by decide +kernel) (pa_cons (pv 1) (pa_cons (pe_glob (v := .ref T.C_InvalidTable) rfl T.m_InvalidTable rfl) pa_nil))) (pa_cons (pe_callB (r := CG.rIsEG K cls d a) (CG.call_isEG hz hf) (by rfl) T.z_isinstance (by decide +kernel) (pa_cons (pv 1) (pa_cons (pe_glob (v := .ref T.C_InvalidSeat) rfl T.m_InvalidSeat rfl) pa_nil))) (pa_cons (pe_callB (r := CG.rIsEG K cls d a) (CG.call_isEG hz hf) (by rfl) T.z_isinstance (by decide +kernel) (pa_cons (pv 1) (pa_cons (pe_glob (v := .ref T.C_InvalidCall) rfl T.m_InvalidCall rfl) pa_nil))) pa_nil))))) (pss_cons (ps_set (i := 2) sc_law_raised.nd rfl (Or.inl rfl) (pe_op (r := rCatR K) op_catR (pv 2) (pe_lst (pa_cons (pe_callB (r := CG.rIsEG K cls d a) (CG.call_isEG hz hf) (by rfl) T.z_isinstance (by decide +kernel) (pa_cons (pv 1) (pa_cons (pe_glob (v := .ref T.C_InvalidDirection) rfl T.m_InvalidDirection rfl) pa_nil))) (pa_cons (pe_callB (r := CG.rIsEGT K cls d a) (CG.call_isEGT hz hf) (by rfl) T.z_isinstance (by decide +kernel) (pa_cons (pv 1) (pa_cons (pe_tup (pa_cons (pe_glob (v := .ref T.C_InvalidWitness) rfl T.m_InvalidWitness rfl) (pa_cons (pe_glob (v := .ref T.C_InvalidTargets) rfl T.m_InvalidTargets rfl) pa_nil))) pa_nil))) pa_nil))))) (pss_cons (ps_if (PW.pt (pw_or (pt_cmpR op_ne (show PE _ _ (tBM K "list" (CG.rCntB K) _ _) from (pe_bm PySem.F.plainAttrs_list PySem.F.slot_list_count PySem.F.type_list_count CG.mt_lcountB (pv 2) (pa_cons pe_bl pa_nil))) pe_int (nomark _)) (pw_or (pt_val (pe_ix (r := rIxL K) ix_list (pv 2) pe_int (fun _ _ => rfl))) (pw_or1 (pt_not (pt_val (pe_callB (r := CG.rIsEG K cls d a) (CG.call_isEG hz hf) (by rfl) T.z_isinstance (by decide +kernel) (pa_cons (pv 1) (pa_cons (pe_bltn (v := .ty "ValueError") rfl T.z_ValueError (by decide +kernel) rfl) pa_nil))))))))) (pss_one (ps_ret (pe_tup (pa_cons pe_str (pa_cons pe_str pa_nil))))) pss_nil) (pss_cons (ps_if (pt_val (pe_ix (r := rIxL K) ix_list (pv 2) pe_int (fun _ _ => rfl))) (pss_one (ps_ret (pe_tup (pa_cons pe_str (pa_cons (pe_callB (r := CG.rReprV K) (CG.cr_reprV L.sysb gd (have z := u65 hr; z)) (by rfl) T.z_repr (by decide +kernel) (pa_cons (pe_xf T.xf_InvalidTable T.n_InvalidTable_rings hz hf (pv 1)) pa_nil)) pa_nil))))) pss_nil) (pss_cons (ps_if (pt_val (pe_ix (r := rIxL K) ix_list (pv 2) pe_int (fun _ _ => rfl))) (pss_one (ps_ret (pe_tup (pa_cons pe_str (pa_cons (pe_callB (r := CG.rReprV K) (CG.cr_reprV L.sysb gd (have z := u65 hr; z)) (by rfl) T.z_repr (by decide +kernel) (pa_cons (pe_xf T.xf_InvalidSeat T.n_InvalidSeat_seat hz hf (pv 1)) pa_nil)) pa_nil))))) pss_nil) (pss_cons (ps_if (pt_val (pe_ix (r := rIxL K) ix_list (pv 2) pe_int (fun _ _ => rfl))) (pss_one (ps_ret (pe_tup (pa_cons pe_str (pa_cons (pe_callB (r := CG.rReprV K) (CG.cr_reprV L.sysb gd (have z := u65 hr; z)) (by rfl) T.z_repr (by decide +kernel) (pa_cons (pe_xf T.xf_InvalidCall T.n_InvalidCall_call hz hf (pv 1)) pa_nil)) pa_nil))))) pss_nil) (pss_one (ps_ret (pe_tup (pa_cons pe_str (pa_cons (pe_callB (r := CG.rReprV K) (CG.cr_reprV L.sysb gd (have z := u65 hr; z)) (by rfl) T.z_repr (by decide +kernel) (pa_cons (pe_xf T.xf_InvalidDirection T.n_InvalidDirection_direction hz hf (pv 1)) pa_nil)) pa_nil))))))))))))) (pss_one (ps_ret (pe_tup (pa_cons pe_str (pa_cons pe_str pa_nil)))))), ?_⟩
  refine ⟨rfl, here, _, ?_, h⟩
  rintro cls d G ⟨dd, fl, wd, x, t, rfl, hdd, h, sh, kq⟩
  rcases h with ⟨rfl, rfl, rfl⟩ | ⟨rfl, rfl, rfl⟩ | ⟨rfl, rfl, rfl⟩ | ⟨rfl, rfl, rfl⟩
  · refine ⟨T.em_InvalidTable_SeatError, fun a na => ?_⟩
    refine ⟨_, rfl, T.C_InvalidTable, _, _, true, rfl, rfl, T.xi_InvalidTable, ⟨dd, _, rfl, hdd⟩, CG.rel_cls, kit_self, _, rfl, T.C_InvalidTable, _, _, false, rfl, rfl, T.xi_InvalidTable, ⟨dd, _, rfl, hdd⟩, CG.rel_cls, CG.kit1 T.ki_InvalidTable_InvalidSeat, _, rfl, T.C_InvalidTable, _, _, false, rfl, rfl, T.xi_InvalidTable, ⟨dd, _, rfl, hdd⟩, CG.rel_cls, CG.kit1 T.ki_InvalidTable_InvalidCall, slen rfl, ?_⟩
    (intro l1 nl1; generalize hGl1 : upd _ l1 _ = G1; have eG1 := exG hGl1 nl1; have hl1 := atG hGl1; clear hGl1)
    dsimp only [gName]
    refine ⟨_, rfl, _, rfl, T.C_InvalidTable, _, _, false, rfl, rfl, T.xi_InvalidTable, ⟨dd, _, rfl, eG1 _ _ hdd⟩, CG.rel_cls, CG.kit1 T.ki_InvalidTable_InvalidDirection, _, rfl, slen rfl, ?_⟩
    (intro tp ntp; generalize hGtp : upd _ tp _ = G1b; have eG1b := exG hGtp ntp; have htp := atG hGtp; clear hGtp)
    refine ⟨T.C_InvalidTable, T.xi_InvalidTable, tp, _, _, false, rfl, rfl, htp, .cons (.own _) (.cons (.own _) .nil), ⟨dd, _, rfl, (ext eG1 eG1b) _ _ hdd⟩, kitAny_cons (CG.kit1 T.ki_InvalidTable_InvalidWitness) (fun _ => kitAny_cons (CG.kit1 T.ki_InvalidTable_InvalidTargets) (fun _ => rfl) (fun z => nomatch z)) (fun z => nomatch z), slen rfl, ?_⟩
    (intro l2 nl2; generalize hGl2 : upd _ l2 _ = G2; have eG2 := exG hGl2 nl2; have hl2 := atG hGl2; clear hGl2)
    refine ⟨l1, l2, _, _, rfl, rfl, SqL.of ((ext eG1b eG2) _ _ hl1), SqL.of hl2, by decide, ?_⟩
    (intro l3 nl3; generalize hGl3 : upd _ l3 _ = G3; have eG3 := exG hGl3 nl3; have hl3 := atG hGl3; clear hGl3)
    have hl3b : G3 l3 = some (.lst (([true, false, false, false, false] : List Bool).map V.bl)) := hl3
    have E3 := ext eG1 (ext eG1b (ext eG2 eG3))
    have hdd3 := E3 _ _ hdd
    dsimp only [gName]
    refine ⟨_, rfl, .inl ⟨rfl, _, SqL.of hl3⟩, l3, [true, false, false, false, false], rfl, rfl, SqL.of hl3b, rfl, _, rfl, itf (by decide) ?_⟩
    refine ⟨_, rfl, l3, _, _, _, rfl, rfl, SqL.of hl3, (L2.atI_nat (j := 4) rfl), _, rfl, itf rfl ?_⟩
    refine ⟨_, rfl, T.C_InvalidTable, _, _, true, rfl, rfl, T.xi_InvalidTable, ⟨dd, _, rfl, hdd3⟩, CG.rel_ty, CG.kit1 T.ki_InvalidTable_ValueError, _, rfl, itf rfl ?_⟩
    dsimp only [tNext]
    refine ⟨_, rfl, l3, _, _, _, rfl, rfl, SqL.of hl3, (L2.atI_nat (j := 0) rfl), _, rfl, itt rfl ?_⟩
    refine ⟨_, rfl, rfl, rfl, dd, _, _, rfl, hdd3, rfl, _, t, rfl, sh _ E3, slen rfl, ?_⟩
    (intro r nr; generalize hGr : upd _ r _ = G4; have eG4 := exG hGr nr; have hr := atG hGr; clear hGr)
    exact kq G4 r (ext E3 eG4) hr
  · refine ⟨T.em_InvalidSeat_SeatError, fun a na => ?_⟩
    refine ⟨_, rfl, T.C_InvalidSeat, _, _, false, rfl, rfl, T.xi_InvalidSeat, ⟨dd, _, rfl, hdd⟩, CG.rel_cls, CG.kit1 T.ki_InvalidSeat_InvalidTable, _, rfl, T.C_InvalidSeat, _, _, true, rfl, rfl, T.xi_InvalidSeat, ⟨dd, _, rfl, hdd⟩, CG.rel_cls, kit_self, _, rfl, T.C_InvalidSeat, _, _, false, rfl, rfl, T.xi_InvalidSeat, ⟨dd, _, rfl, hdd⟩, CG.rel_cls, CG.kit1 T.ki_InvalidSeat_InvalidCall, slen rfl, ?_⟩
    (intro l1 nl1; generalize hGl1 : upd _ l1 _ = G1; have eG1 := exG hGl1 nl1; have hl1 := atG hGl1; clear hGl1)
    dsimp only [gName]
    refine ⟨_, rfl, _, rfl, T.C_InvalidSeat, _, _, false, rfl, rfl, T.xi_InvalidSeat, ⟨dd, _, rfl, eG1 _ _ hdd⟩, CG.rel_cls, CG.kit1 T.ki_InvalidSeat_InvalidDirection, _, rfl, slen rfl, ?_⟩
    (intro tp ntp; generalize hGtp : upd _ tp _ = G1b; have eG1b := exG hGtp ntp; have htp := atG hGtp; clear hGtp)
    refine ⟨T.C_InvalidSeat, T.xi_InvalidSeat, tp, _, _, false, rfl, rfl, htp, .cons (.own _) (.cons (.own _) .nil), ⟨dd, _, rfl, (ext eG1 eG1b) _ _ hdd⟩, kitAny_cons (CG.kit1 T.ki_InvalidSeat_InvalidWitness) (fun _ => kitAny_cons (CG.kit1 T.ki_InvalidSeat_InvalidTargets) (fun _ => rfl) (fun z => nomatch z)) (fun z => nomatch z), slen rfl, ?_⟩
    (intro l2 nl2; generalize hGl2 : upd _ l2 _ = G2; have eG2 := exG hGl2 nl2; have hl2 := atG hGl2; clear hGl2)
    refine ⟨l1, l2, _, _, rfl, rfl, SqL.of ((ext eG1b eG2) _ _ hl1), SqL.of hl2, by decide, ?_⟩
    (intro l3 nl3; generalize hGl3 : upd _ l3 _ = G3; have eG3 := exG hGl3 nl3; have hl3 := atG hGl3; clear hGl3)
    have hl3b : G3 l3 = some (.lst (([false, true, false, false, false] : List Bool).map V.bl)) := hl3
    have E3 := ext eG1 (ext eG1b (ext eG2 eG3))
    have hdd3 := E3 _ _ hdd
    dsimp only [gName]
    refine ⟨_, rfl, .inl ⟨rfl, _, SqL.of hl3⟩, l3, [false, true, false, false, false], rfl, rfl, SqL.of hl3b, rfl, _, rfl, itf (by decide) ?_⟩
    refine ⟨_, rfl, l3, _, _, _, rfl, rfl, SqL.of hl3, (L2.atI_nat (j := 4) rfl), _, rfl, itf rfl ?_⟩
    refine ⟨_, rfl, T.C_InvalidSeat, _, _, true, rfl, rfl, T.xi_InvalidSeat, ⟨dd, _, rfl, hdd3⟩, CG.rel_ty, CG.kit1 T.ki_InvalidSeat_ValueError, _, rfl, itf rfl ?_⟩
    dsimp only [tNext]
    refine ⟨_, rfl, l3, _, _, _, rfl, rfl, SqL.of hl3, (L2.atI_nat (j := 0) rfl), _, rfl, itf rfl ?_⟩
    dsimp only [tNext]
    refine ⟨_, rfl, l3, _, _, _, rfl, rfl, SqL.of hl3, (L2.atI_nat (j := 1) rfl), _, rfl, itt rfl ?_⟩
    refine ⟨_, rfl, rfl, rfl, dd, _, _, rfl, hdd3, rfl, _, t, rfl, sh _ E3, slen rfl, ?_⟩
    (intro r nr; generalize hGr : upd _ r _ = G4; have eG4 := exG hGr nr; have hr := atG hGr; clear hGr)
    exact kq G4 r (ext E3 eG4) hr
  · refine ⟨T.em_InvalidCall_SeatError, fun a na => ?_⟩
    refine ⟨_, rfl, T.C_InvalidCall, _, _, false, rfl, rfl, T.xi_InvalidCall, ⟨dd, _, rfl, hdd⟩, CG.rel_cls, CG.kit1 T.ki_InvalidCall_InvalidTable, _, rfl, T.C_InvalidCall, _, _, false, rfl, rfl, T.xi_InvalidCall, ⟨dd, _, rfl, hdd⟩, CG.rel_cls, CG.kit1 T.ki_InvalidCall_InvalidSeat, _, rfl, T.C_InvalidCall, _, _, true, rfl, rfl, T.xi_InvalidCall, ⟨dd, _, rfl, hdd⟩, CG.rel_cls, kit_self, slen rfl, ?_⟩
    (intro l1 nl1; generalize hGl1 : upd _ l1 _ = G1; have eG1 := exG hGl1 nl1; have hl1 := atG hGl1; clear hGl1)
    dsimp only [gName]
    refine ⟨_, rfl, _, rfl, T.C_InvalidCall, _, _, false, rfl, rfl, T.xi_InvalidCall, ⟨dd, _, rfl, eG1 _ _ hdd⟩, CG.rel_cls, CG.kit1 T.ki_InvalidCall_InvalidDirection, _, rfl, slen rfl, ?_⟩
    (intro tp ntp; generalize hGtp : upd _ tp _ = G1b; have eG1b := exG hGtp ntp; have htp := atG hGtp; clear hGtp)
    refine ⟨T.C_InvalidCall, T.xi_InvalidCall, tp, _, _, false, rfl, rfl, htp, .cons (.own _) (.cons (.own _) .nil), ⟨dd, _, rfl, (ext eG1 eG1b) _ _ hdd⟩, kitAny_cons (CG.kit1 T.ki_InvalidCall_InvalidWitness) (fun _ => kitAny_cons (CG.kit1 T.ki_InvalidCall_InvalidTargets) (fun _ => rfl) (fun z => nomatch z)) (fun z => nomatch z), slen rfl, ?_⟩
    (intro l2 nl2; generalize hGl2 : upd _ l2 _ = G2; have eG2 := exG hGl2 nl2; have hl2 := atG hGl2; clear hGl2)
    refine ⟨l1, l2, _, _, rfl, rfl, SqL.of ((ext eG1b eG2) _ _ hl1), SqL.of hl2, by decide, ?_⟩
    (intro l3 nl3; generalize hGl3 : upd _ l3 _ = G3; have eG3 := exG hGl3 nl3; have hl3 := atG hGl3; clear hGl3)
    have hl3b : G3 l3 = some (.lst (([false, false, true, false, false] : List Bool).map V.bl)) := hl3
    have E3 := ext eG1 (ext eG1b (ext eG2 eG3))
    have hdd3 := E3 _ _ hdd
    dsimp only [gName]
    refine ⟨_, rfl, .inl ⟨rfl, _, SqL.of hl3⟩, l3, [false, false, true, false, false], rfl, rfl, SqL.of hl3b, rfl, _, rfl, itf (by decide) ?_⟩
    refine ⟨_, rfl, l3, _, _, _, rfl, rfl, SqL.of hl3, (L2.atI_nat (j := 4) rfl), _, rfl, itf rfl ?_⟩
    refine ⟨_, rfl, T.C_InvalidCall, _, _, true, rfl, rfl, T.xi_InvalidCall, ⟨dd, _, rfl, hdd3⟩, CG.rel_ty, CG.kit1 T.ki_InvalidCall_ValueError, _, rfl, itf rfl ?_⟩
    dsimp only [tNext]
    refine ⟨_, rfl, l3, _, _, _, rfl, rfl, SqL.of hl3, (L2.atI_nat (j := 0) rfl), _, rfl, itf rfl ?_⟩
    dsimp only [tNext]
    refine ⟨_, rfl, l3, _, _, _, rfl, rfl, SqL.of hl3, (L2.atI_nat (j := 1) rfl), _, rfl, itf rfl ?_⟩
    dsimp only [tNext]
    refine ⟨_, rfl, l3, _, _, _, rfl, rfl, SqL.of hl3, (L2.atI_nat (j := 2) rfl), _, rfl, itt rfl ?_⟩
    refine ⟨_, rfl, rfl, rfl, dd, _, _, rfl, hdd3, rfl, _, t, rfl, sh _ E3, slen rfl, ?_⟩
    (intro r nr; generalize hGr : upd _ r _ = G4; have eG4 := exG hGr nr; have hr := atG hGr; clear hGr)
    exact kq G4 r (ext E3 eG4) hr
  · refine ⟨T.em_InvalidDirection_SeatError, fun a na => ?_⟩
    refine ⟨_, rfl, T.C_InvalidDirection, _, _, false, rfl, rfl, T.xi_InvalidDirection, ⟨dd, _, rfl, hdd⟩, CG.rel_cls, CG.kit1 T.ki_InvalidDirection_InvalidTable, _, rfl, T.C_InvalidDirection, _, _, false, rfl, rfl, T.xi_InvalidDirection, ⟨dd, _, rfl, hdd⟩, CG.rel_cls, CG.kit1 T.ki_InvalidDirection_InvalidSeat, _, rfl, T.C_InvalidDirection, _, _, false, rfl, rfl, T.xi_InvalidDirection, ⟨dd, _, rfl, hdd⟩, CG.rel_cls, CG.kit1 T.ki_InvalidDirection_InvalidCall, slen rfl, ?_⟩
    (intro l1 nl1; generalize hGl1 : upd _ l1 _ = G1; have eG1 := exG hGl1 nl1; have hl1 := atG hGl1; clear hGl1)
    dsimp only [gName]
    refine ⟨_, rfl, _, rfl, T.C_InvalidDirection, _, _, true, rfl, rfl, T.xi_InvalidDirection, ⟨dd, _, rfl, eG1 _ _ hdd⟩, CG.rel_cls, kit_self, _, rfl, slen rfl, ?_⟩
    (intro tp ntp; generalize hGtp : upd _ tp _ = G1b; have eG1b := exG hGtp ntp; have htp := atG hGtp; clear hGtp)
    refine ⟨T.C_InvalidDirection, T.xi_InvalidDirection, tp, _, _, false, rfl, rfl, htp, .cons (.own _) (.cons (.own _) .nil), ⟨dd, _, rfl, (ext eG1 eG1b) _ _ hdd⟩, kitAny_cons (CG.kit1 T.ki_InvalidDirection_InvalidWitness) (fun _ => kitAny_cons (CG.kit1 T.ki_InvalidDirection_InvalidTargets) (fun _ => rfl) (fun z => nomatch z)) (fun z => nomatch z), slen rfl, ?_⟩
    (intro l2 nl2; generalize hGl2 : upd _ l2 _ = G2; have eG2 := exG hGl2 nl2; have hl2 := atG hGl2; clear hGl2)
    refine ⟨l1, l2, _, _, rfl, rfl, SqL.of ((ext eG1b eG2) _ _ hl1), SqL.of hl2, by decide, ?_⟩
    (intro l3 nl3; generalize hGl3 : upd _ l3 _ = G3; have eG3 := exG hGl3 nl3; have hl3 := atG hGl3; clear hGl3)
    have hl3b : G3 l3 = some (.lst (([false, false, false, true, false] : List Bool).map V.bl)) := hl3
    have E3 := ext eG1 (ext eG1b (ext eG2 eG3))
    have hdd3 := E3 _ _ hdd
    dsimp only [gName]
    refine ⟨_, rfl, .inl ⟨rfl, _, SqL.of hl3⟩, l3, [false, false, false, true, false], rfl, rfl, SqL.of hl3b, rfl, _, rfl, itf (by decide) ?_⟩
    refine ⟨_, rfl, l3, _, _, _, rfl, rfl, SqL.of hl3, (L2.atI_nat (j := 4) rfl), _, rfl, itf rfl ?_⟩
    refine ⟨_, rfl, T.C_InvalidDirection, _, _, true, rfl, rfl, T.xi_InvalidDirection, ⟨dd, _, rfl, hdd3⟩, CG.rel_ty, CG.kit1 T.ki_InvalidDirection_ValueError, _, rfl, itf rfl ?_⟩
    dsimp only [tNext]
    refine ⟨_, rfl, l3, _, _, _, rfl, rfl, SqL.of hl3, (L2.atI_nat (j := 0) rfl), _, rfl, itf rfl ?_⟩
    dsimp only [tNext]
    refine ⟨_, rfl, l3, _, _, _, rfl, rfl, SqL.of hl3, (L2.atI_nat (j := 1) rfl), _, rfl, itf rfl ?_⟩
    dsimp only [tNext]
    refine ⟨_, rfl, l3, _, _, _, rfl, rfl, SqL.of hl3, (L2.atI_nat (j := 2) rfl), _, rfl, itf rfl ?_⟩
    refine ⟨_, rfl, rfl, rfl, dd, _, _, rfl, hdd3, rfl, _, t, rfl, sh _ E3, slen rfl, ?_⟩
    (intro r nr; generalize hGr : upd _ r _ = G4; have eG4 := exG hGr nr; have hr := atG hGr; clear hGr)
    exact kq G4 r (ext E3 eG4) hr
end

section
variable {K : PySem.W.Frag} {CT CS CC CD : Addr} {R : VK} {H : Hp} {x : V} {t : Str}
theorem rai_tab (sh : ∀ G, Ex H G → CG.ShV K G x t) (k : ∀ G r, Ex H G → TwoS G r "table" (.str t) → R (.ref r) G) : Rai (ErrR K CT CS CC CD R) H CT "rings" x := fun dd H2 e2 hd =>
  ⟨dd, _, _, _, t, rfl, hd, .inl ⟨rfl, rfl, rfl⟩, fun G2 e3 => sh _ (ext e2 e3), fun G2 r e3 t => k _ r (ext e2 e3) t⟩
theorem rai_seat (sh : ∀ G, Ex H G → CG.ShV K G x t) (k : ∀ G r, Ex H G → TwoS G r "seat" (.str t) → R (.ref r) G) : Rai (ErrR K CT CS CC CD R) H CS "seat" x := fun dd H2 e2 hd =>
  ⟨dd, _, _, _, t, rfl, hd, .inr (.inl ⟨rfl, rfl, rfl⟩), fun G2 e3 => sh _ (ext e2 e3), fun G2 r e3 t => k _ r (ext e2 e3) t⟩
theorem rai_call (sh : ∀ G, Ex H G → CG.ShV K G x t) (k : ∀ G r, Ex H G → TwoS G r "call" (.str t) → R (.ref r) G) : Rai (ErrR K CT CS CC CD R) H CC "call" x := fun dd H2 e2 hd =>
  ⟨dd, _, _, _, t, rfl, hd, .inr (.inr (.inl ⟨rfl, rfl, rfl⟩)), fun G2 e3 => sh _ (ext e2 e3), fun G2 r e3 t => k _ r (ext e2 e3) t⟩
theorem rai_dir (sh : ∀ G, Ex H G → CG.ShV K G x t) (k : ∀ G r, Ex H G → TwoS G r "direction" (.str t) → R (.ref r) G) : Rai (ErrR K CT CS CC CD R) H CD "direction" x := fun dd H2 e2 hd =>
  ⟨dd, _, _, _, t, rfl, hd, .inr (.inr (.inr ⟨rfl, rfl, rfl⟩)), fun G2 e3 => sh _ (ext e2 e3), fun G2 r e3 t => k _ r (ext e2 e3) t⟩
theorem Dq.shV {B : Addr → Prop} {v : V} {d : PyData} (q : Dq B H v d) (s : Shn d) : ∀ G, Ex H G → CG.ShV K G v d.shown := fun G e =>
  .inl ⟨d, (q.mono e).de, s.1.sh, Nat.le_trans s.1.len (by decide), Nat.le_trans s.1.dep (by decide), rfl⟩
theorem BadR.shV {s : Addr} {v : V} (h : BadR s H v) : ∃ t, Sk t ∧ ∀ G, Ex H G → CG.ShV K G v t := by
  rcases h with ⟨d, q, b⟩ | ⟨a, rfl, _, ha⟩
  · exact ⟨d.shown, b.sh.2, q.shV b.sh⟩
  · refine ⟨(PyData.dict [(.int 3, .int 4)]).shown, ?_, fun G e => .inr ⟨a, rfl, e _ _ ha, rfl⟩⟩
    have h : ((PyData.dict [(.int 3, .int 4)]).shown.cps.toList.all fun c => decide (c < 0x110000)) = true := by
      simp only [PyData.shown, PyData.shownKv]
      decide +kernel
    intro c hc
    exact of_decide_eq_true (List.all_eq_true.mp h c hc)
theorem BadR.tgt {s : Addr} {v : V} (h : BadR s H v) : ∃ od, TgtAt K (· ≠ s) H v od ∧ (∀ ds, od = some ds → ds.length ≤ 1000) ∧ rgBad od = true := by
  rcases h with ⟨d, q, b⟩ | ⟨a, rfl, _, ha⟩
  · exact ⟨seqD d, q.tgt2, b.le, b.bad⟩
  · exact ⟨none, .inr (.inr (.inr (.inr ⟨_, rfl, .inl ⟨_, ha⟩⟩))), (fun ds z => nomatch z), rfl⟩
end
/-- a pair of texts, as data -/
def PdT (H : Hp) (v : V) (d : PyData) : Prop := ∃ (r : Addr) (w t : Str), v = .ref r ∧ TwoS H r w (.str t) ∧ d = .tuple [.str w, .str t] ∧ Sk w ∧ Sk t
theorem pdT_mono (H H2 : Hp) (v : V) (a : PyData) (e : ∀ c xs, H c = some (.tup xs) → H2 c = some (.tup xs)) (h : PdT H v a) : PdT H2 v a := by
  obtain ⟨r, w, t, h1, h2, h3⟩ := h
  exact ⟨r, w, t, h1, e _ _ h2, h3⟩
theorem pdT_dp {K : PySem.W.Frag} {H : Hp} {v : V} {d : PyData} (h : PdT H v d) : Dp K H v d ∧ Sh 3 d := by
  obtain ⟨r, w, t, rfl, h2, rfl, hw, ht⟩ := h
  refine ⟨.tup (SqT.of h2) (.cons (.str _) (.cons (.str _) .nil)), (sh_tuple (n := 2) fun d hd => ?_)⟩
  simp only [List.mem_cons, List.not_mem_nil, or_false] at hd
  rcases hd with rfl | rfl
  · exact ⟨sk_ok hw, by simp only [PyData.depth]; omega⟩
  · exact ⟨sk_ok ht, by simp only [PyData.depth]; omega⟩
theorem pdT_all {K : PySem.W.Frag} {H : Hp} : ∀ {vs : List V} {ds : List PyData}, Paired (PdT H) vs ds → DpAll K H vs ds ∧ ∀ d ∈ ds, Sh 3 d
  | _, _, .nil => ⟨.nil, fun d hd => nomatch hd⟩
  | _, _, .cons h t => by
    obtain ⟨a, b⟩ := pdT_dp (K := K) h
    obtain ⟨c, e⟩ := pdT_all (K := K) t
    refine ⟨.cons a c, fun d hd => ?_⟩
    rcases List.mem_cons.mp hd with rfl | hd
    · exact b
    · exact e d hd
theorem PdT.of {H : Hp} {r : Addr} {w t : Str} (h : TwoS H r w (.str t)) (hw : Sk w) (ht : Sk t) : PdT H (.ref r) (.tuple [.str w, .str t]) := ⟨r, w, t, rfl, h, rfl, hw, ht⟩
/-- the text in data -/
def strD : PyData → Option Str
  | .str z => some z
  | _ => none
theorem Dq.strA {K : PySem.W.Frag} {B : Addr → Prop} {H : Hp} {v : V} {d : PyData} (h : Dq B H v d) : StrA K H v (strD d) := by
  cases h with
  | str x => exact rfl
  | int i => exact ⟨_, .base (.int i), kit_ty (r := false) (by decide +kernel)⟩
  | non => exact ⟨_, .base .non, kit_ty (r := false) (by decide +kernel)⟩
  | bl b => exact ⟨_, .base (.bl b), kit_ty (r := false) (by decide +kernel)⟩
  | lst h _ _ => exact ⟨_, .base (.lst h), kit_ty (r := false) (by decide +kernel)⟩
  | tup h _ => exact ⟨_, .base (.tup h), kit_ty (r := false) (by decide +kernel)⟩
  | emp h => exact ⟨_, .base (.dK h), kit_ty (r := false) (by decide +kernel)⟩
/-- data that is no direction -/
def BadW (d : PyData) : Prop := Shn d ∧ isDirO (strD d) = false
theorem pdT_ne {K : PySem.W.Frag} {G : Hp} {a b : V} {d : PyData} {Q : VK} (ha : PdT G a d) (hb : PdT G b d) (h : Q (.bl false) G) : rNeD K a b G Q := by
  have sh : Sh 60 d := (pdT_dp (K := K) ha).2.up (by decide)
  refine ⟨d, d, (pdT_dp ha).1, (pdT_dp hb).1, sh.ok, sh.ok, ?_⟩
  rw [eqv_same sh]
  exact h
theorem pdT_eq {K : PySem.W.Frag} {G : Hp} {a b : V} {d : PyData} {Q : VK} (ha : PdT G a d) (hb : PdT G b d) (h : Q (.bl true) G) : rEqD K a b G Q := by
  have sh : Sh 60 d := (pdT_dp (K := K) ha).2.up (by decide)
  refine ⟨d, d, (pdT_dp ha).1, (pdT_dp hb).1, sh.ok, sh.ok, ?_⟩
  rw [eqv_refl d sh.1]
  exact h

section
variable {P : Program} {w : World} {K : PySem.W.Frag} {mg : Str → Option Value} {base : Heap}
def lamQ : Str := "_law_check.<locals>.<lambda>"
def sp_law_check (PT : Addr) : Sp := fun vs H Q _ => ∃ (s : Addr), vs = [.ref s] ∧ Src H s ∧ LamX.Tabs [(PT, lamQ)] H ∧ ∀ H2, XN s H H2 → Src H2 s → LamX.Tabs [(PT, lamQ)] H2 → Q (.bl true) H2
theorem ok_law_check (T : TX K mg) (L : TL T base) : CG.FnOkG P w K mg base 9 T.f_law_check T.fd_law_check ["_law_source_here"] (sp_law_check L.p_law_check) := by
  refine CG.okGT T.F_law_check L.at_law_check sc_law_check (fun vs H Q E h => ?_) (fun A outer s0 H0 vs Q E gd hr h => ?_)
  · obtain ⟨s, rfl, _⟩ := h
    rfl
  · obtain ⟨s, rfl, src, tabs, k⟩ := h
    refine ⟨_, (pss_cons (ps_set (i := 1) sc_law_check.nd rfl (Or.inl rfl) (pe_call (ok_law_rings T) (hr.mono (by decide)) rfl T.m_law_rings T.F_law_rings.kp T.b_law_rings .nil pass0 (pa_cons (pv 0) pa_nil))) (pss_cons (ps_set (i := 2) sc_law_check.nd rfl (Or.inr rfl) (pe_call (ok_law_bad_rings T) (hr.mono (by decide)) rfl T.m_law_bad_rings T.F_law_bad_rings.kp T.b_law_bad_rings .nil pass0 (pa_cons (pv 0) (pa_cons (pv 1) pa_nil)))) (pss_cons (ps_if (pt_cmpR (r := rNeD K) (op_neD hr.units) (CG.pe_said1 T.F_law_raised T.b_law_raised sc_law_raised rfl T.m_law_raised rfl (by exact Or.inl rfl) (gives_law_raised T L 6) gd hr L.tb_law_check rfl (fun A outer s H E f c hr => (pe_make T.M_Table (okX_Table_init T) (hr.mono (by decide)) rfl T.m_Table T.b_Table_init .nil (passes_call (takes_of rfl rfl rfl rfl) (fun _ _ _ _ h => h)) (pa_cons (pv 2) pa_nil))) (show LamX.LamS (defScope s_law_check) _ from LamX.lamS_by (by decide +kernel))) (pe_tup (pa_cons pe_str (pa_cons (pe_callB (r := CG.rReprV K) (CG.cr_reprV L.sysb gd (have z := u65 hr; z)) (by rfl) T.z_repr (by decide +kernel) (pa_cons (pv 2) pa_nil)) pa_nil))) (nomark _)) (pss_one (ps_ret pe_bl)) pss_nil) (pss_cons (ps_set (i := 3) sc_law_check.nd rfl (Or.inr rfl) (pe_make T.M_Table (ok_Table_init T) (hr.mono (by decide)) rfl T.m_Table T.b_Table_init .nil pass0 (pa_cons (pe_ix ix_list (pe_lst (pa_cons (pv 1) (pa_cons (pe_callTy call_tuple_of (by rfl) T.z_tuple (by decide +kernel) (pa_cons (pv 1) pa_nil)) pa_nil))) (pe_call (ok_law_take T) (hr.mono (by decide)) rfl T.m_law_take T.F_law_take.kp T.b_law_take .nil pass0 (pa_cons (pv 0) (pa_cons pe_int pa_nil))) (fun _ _ => rfl)) pa_nil))) (pss_cons (ps_set (i := 4) sc_law_check.nd rfl (Or.inr rfl) (pe_callTy call_tuple_of (by rfl) T.z_tuple (by decide +kernel) (pa_cons (pe_lc (own := [("_law_size", 10)]) (g := (gName 10)) rfl sc_law_check.nd (pi_list (pv 1)) (blkOk_by (N := N_law_check) (sc := defScope s_law_check) (by decide +kernel)) (fun _ _ _ _ _ => (pg_name (i := 10) sc_law_check.nd rfl (Or.inl rfl))) (fun _ _ _ _ _ => pts_nil) (fun _ _ _ _ _ => (pe_op op_sub (pv 10) pe_int))) pa_nil))) (pss_cons (ps_asg (pe_tup (pa_cons (pe_call (ok_law_bad_seat T) (hr.mono (by decide)) rfl T.m_law_bad_seat T.F_law_bad_seat.kp T.b_law_bad_seat .nil pass0 (pa_cons (pv 0) (pa_cons (pv 1) pa_nil))) (pa_cons (pe_call (ok_law_bad_call T) (hr.mono (by decide)) rfl T.m_law_bad_call T.F_law_bad_call.kp T.b_law_bad_call .nil pass0 (pa_cons (pv 0) (pa_cons (pv 1) pa_nil))) pa_nil))) (pg_tup rfl (pgs_cons (pg_name (i := 5) sc_law_check.nd rfl (Or.inr rfl)) (pgs_cons (pg_name (i := 6) sc_law_check.nd rfl (Or.inr rfl)) pgs_nil)))) (pss_cons (ps_set (i := 7) sc_law_check.nd rfl (Or.inr rfl) (pe_ix ix_list (pe_lst (pa_cons pe_non (pa_cons pe_str (pa_cons pe_str (pa_cons pe_str (pa_cons pe_int (pa_cons pe_bl (pa_cons (pe_lst pa_nil) (pa_cons (pe_tup (pa_cons pe_str pa_nil)) (pa_cons pe_dnewK (pa_cons pe_str pa_nil))))))))))) (pe_call (ok_law_take T) (hr.mono (by decide)) rfl T.m_law_take T.F_law_take.kp T.b_law_take .nil pass0 (pa_cons (pv 0) (pa_cons pe_int pa_nil))) (fun _ _ => rfl))) (pss_cons (ps_set (i := 8) sc_law_check.nd rfl (Or.inr rfl) (pe_call (ok_law_call T) (hr.mono (by decide)) rfl T.m_law_call T.F_law_call.kp T.b_law_call .nil pass0 (pa_cons (pv 0) (pa_cons (pv 1) pa_nil)))) (pss_cons (ps_set (i := 9) sc_law_check.nd rfl (Or.inl rfl) (pe_lst (pa_cons (CG.pe_lamK (k := 6) L.tb_law_check rfl (fun A outer s H E f c hr => (pe_meth (pv 3) T.cl_Table T.me_Table_moves (okX_Table_moves T) (hr.mono (by decide)) T.b_Table_moves .nil (passes_call (takes_of rfl rfl rfl rfl) (fun _ _ _ _ h => h)) (pa_cons (pv 5) (pa_cons (pv 6) pa_nil)))) (show LamX.LamS (defScope s_law_check) _ from LamX.lamS_by (by decide +kernel))) pa_nil))) (pss_cons (ps_expr (pe_bm PySem.F.plainAttrs_list PySem.F.slot_list_append PySem.F.type_list_append mt_append (pv 9) (pa_cons (CG.pe_lamK (k := 6) L.tb_law_check rfl (fun A outer s H E f c hr => (pe_meth (pv 3) T.cl_Table T.me_Table_step (okX_Table_step T) (hr.mono (by decide)) T.b_Table_step .nil (passes_call (takes_of rfl rfl rfl rfl) (fun _ _ _ _ h => h)) (pa_cons (pv 5) (pa_cons (pv 6) (pa_cons (pv 7) pa_nil))))) (show LamX.LamS (defScope s_law_check) _ from LamX.lamS_by (by decide +kernel))) pa_nil))) (pss_cons (ps_expr (pe_bm PySem.F.plainAttrs_list PySem.F.slot_list_append PySem.F.type_list_append mt_append (pv 9) (pa_cons (CG.pe_lamK (k := 6) L.tb_law_check rfl (fun A outer s H E f c hr => (pe_meth (pv 3) T.cl_Table T.me_Table_order (okX_Table_order T) (hr.mono (by decide)) T.b_Table_order .nil (passes_call (takes_of rfl rfl rfl rfl) (fun _ _ _ _ h => h)) (pa_cons (pv 5) pa_nil))) (show LamX.LamS (defScope s_law_check) _ from LamX.lamS_by (by decide +kernel))) pa_nil))) (pss_cons (ps_expr (pe_bm PySem.F.plainAttrs_list PySem.F.slot_list_append PySem.F.type_list_append mt_append (pv 9) (pa_cons (CG.pe_lamK (k := 6) L.tb_law_check rfl (fun A outer s H E f c hr => (pe_meth (pv 3) T.cl_Table T.me_Table_halves (okX_Table_halves T) (hr.mono (by decide)) T.b_Table_halves .nil (passes_call (takes_of rfl rfl rfl rfl) (fun _ _ _ _ h => h)) (pa_cons (pv 5) pa_nil))) (show LamX.LamS (defScope s_law_check) _ from LamX.lamS_by (by decide +kernel))) pa_nil))) (pss_cons (ps_if (pt_cmpR (r := rNeD K) (op_neD hr.units) (CG.pe_lcM (own := [("_law_attempt", 11)]) (g := (gName 11)) rfl sc_law_check.nd (pi_list (pv 9)) (blkOk_by (N := N_law_check) (sc := defScope s_law_check) (by decide +kernel)) (fun _ _ _ _ _ => (pg_name (i := 11) sc_law_check.nd rfl (Or.inl rfl))) (CG.said_elt T.F_law_raised T.b_law_raised sc_law_raised (fun _ _ _ _ _ => rfl) T.m_law_raised rfl (by exact Or.inl rfl) (gives_law_raised T L 6) gd hr (fun _ _ _ _ _ => (pv 11)))) (pe_op op_rep (pe_lst (pa_cons (pe_tup (pa_cons pe_str (pa_cons (pe_callB (r := CG.rReprV K) (CG.cr_reprV L.sysb gd (have z := u65 hr; z)) (by rfl) T.z_repr (by decide +kernel) (pa_cons (pv 5) pa_nil)) pa_nil))) pa_nil)) pe_int) (nomark _)) (pss_one (ps_ret pe_bl)) pss_nil) (pss_cons (ps_if (pt_cmpR (r := rNeD K) (op_neD hr.units) (CG.pe_said1 T.F_law_raised T.b_law_raised sc_law_raised rfl T.m_law_raised rfl (by exact Or.inl rfl) (gives_law_raised T L 6) gd hr L.tb_law_check rfl (fun A outer s H E f c hr => (pe_meth (pv 3) T.cl_Table T.me_Table_moves (okX_Table_moves T) (hr.mono (by decide)) T.b_Table_moves .nil (passes_call (takes_of rfl rfl rfl rfl) (fun _ _ _ _ h => h)) (pa_cons (pv 4) (pa_cons (pv 6) pa_nil)))) (show LamX.LamS (defScope s_law_check) _ from LamX.lamS_by (by decide +kernel))) (pe_tup (pa_cons pe_str (pa_cons (pe_callB (r := CG.rReprV K) (CG.cr_reprV L.sysb gd (have z := u65 hr; z)) (by rfl) T.z_repr (by decide +kernel) (pa_cons (pv 6) pa_nil)) pa_nil))) (nomark _)) (pss_one (ps_ret pe_bl)) pss_nil) (pss_cons (ps_if (pt_cmpR (r := rNeD K) (op_neD hr.units) (CG.pe_said1 T.F_law_raised T.b_law_raised sc_law_raised rfl T.m_law_raised rfl (by exact Or.inl rfl) (gives_law_raised T L 6) gd hr L.tb_law_check rfl (fun A outer s H E f c hr => (pe_meth (pv 3) T.cl_Table T.me_Table_step (okX_Table_step T) (hr.mono (by decide)) T.b_Table_step .nil (passes_call (takes_of rfl rfl rfl rfl) (fun _ _ _ _ h => h)) (pa_cons (pv 4) (pa_cons (pv 6) (pa_cons (pv 7) pa_nil))))) (show LamX.LamS (defScope s_law_check) _ from LamX.lamS_by (by decide +kernel))) (pe_tup (pa_cons pe_str (pa_cons (pe_callB (r := CG.rReprV K) (CG.cr_reprV L.sysb gd (have z := u65 hr; z)) (by rfl) T.z_repr (by decide +kernel) (pa_cons (pv 6) pa_nil)) pa_nil))) (nomark _)) (pss_one (ps_ret pe_bl)) pss_nil) (pss_cons (ps_if (pt_cmpR (r := rNeD K) (op_neD hr.units) (CG.pe_said1 T.F_law_raised T.b_law_raised sc_law_raised rfl T.m_law_raised rfl (by exact Or.inl rfl) (gives_law_raised T L 6) gd hr L.tb_law_check rfl (fun A outer s H E f c hr => (pe_meth (pv 3) T.cl_Table T.me_Table_step (okX_Table_step T) (hr.mono (by decide)) T.b_Table_step .nil (passes_call (takes_of rfl rfl rfl rfl) (fun _ _ _ _ h => h)) (pa_cons (pv 4) (pa_cons (pv 8) (pa_cons (pv 7) pa_nil))))) (show LamX.LamS (defScope s_law_check) _ from LamX.lamS_by (by decide +kernel))) (pe_tup (pa_cons pe_str (pa_cons (pe_callB (r := CG.rReprV K) (CG.cr_reprV L.sysb gd (have z := u65 hr; z)) (by rfl) T.z_repr (by decide +kernel) (pa_cons (pv 7) pa_nil)) pa_nil))) (nomark _)) (pss_one (ps_ret pe_bl)) pss_nil) (pss_one (ps_ret (pe_cmpR (r := rEqD K) (op_eqD hr.units) (CG.pe_said1 T.F_law_raised T.b_law_raised sc_law_raised rfl T.m_law_raised rfl (by exact Or.inl rfl) (gives_law_raised T L 6) gd hr L.tb_law_check rfl (fun A outer s H E f c hr => (pe_meth (pv 3) T.cl_Table T.me_Table_step (okX_Table_step T) (hr.mono (by decide)) T.b_Table_step .nil (passes_call (takes_of rfl rfl rfl rfl) (fun _ _ _ _ h => h)) (pa_cons (pv 4) (pa_cons (pv 8) (pa_cons pe_str pa_nil))))) (show LamX.LamS (defScope s_law_check) _ from LamX.lamS_by (by decide +kernel))) (pe_tup (pa_cons pe_str (pa_cons pe_str pa_nil))) (nomark _)))))))))))))))))))), ?_⟩
    refine ⟨_, rfl, s, rfl, src, fun l ns H1 nl hl1 ok le xb1 src1 => ?_⟩
    have nls := src.ne nl
    have tabs1 := Tabs.xb tabs src xb1
    have l4 := ok.le
    dsimp only [gName]
    show tSeq _ _ _ [_, _, _, _, _, _, _, _, _, _, _, _] _
    refine ⟨_, rfl, _, rfl, s, l, ns, rfl, src1, hl1, nls, ok, le, fun vB H2 bad2 xb2 src2 => ?_⟩
    have hl2 := xb2 _ _ nls hl1
    have tabs2 := Tabs.xb tabs1 src1 xb2
    have X2 : XN s H0 H2 := (XN.xb xb1).trans (XN.xb xb2)
    clear hl1 tabs1 xb1 xb2 src1 tabs
    dsimp only [gName]
    show tSeq _ _ _ [_, _, _, _, _, _, _, _, _, _, _, _] _
    refine ⟨tabs2, fun G1 en1 tb1 => ?_⟩
    have badG := bad2.xn src2 (.en en1)
    refine ⟨_, rfl, fun x dx nx ndx ne => ?_⟩
    have eX : Ex G1 (upd (upd G1 dx (.own x)) x (.ins T.C_Table dx [])) := fun c o q => by
      rw [upd_ne (ne_of_none q nx), upd_ne (ne_of_none q ndx)]
      exact q
    obtain ⟨t, skt, shv⟩ := BadR.shV (K := K) badG
    obtain ⟨od, htg, lod, bod⟩ := BadR.tgt (K := K) (badG.xn (src2.en en1) (.of eX))
    refine ⟨x, dx, vB, _, od, rfl, upd_same, htg, lod, bod, rai_tab (fun G e => shv G (ext eX e)) fun G2 r2 e2 two => ?_⟩
    have skT : Sk "table" := sk_of _
    refine ⟨_, rfl, vB, t, rfl, shv _ (ext eX e2), slen rfl, ?_⟩
    (intro r3 nr3; generalize hGr3 : upd _ r3 _ = G3; have eG3 := exG hGr3 nr3; have hr3 := atG hGr3; clear hGr3)
    refine pdT_ne (PdT.of (eG3 _ _ two) skT skt) (PdT.of hr3 skT skt) ⟨_, rfl, itf rfl ?_⟩
    have e13 := ext eX (ext e2 eG3)
    have X3 : XN s H0 G3 := X2.trans ((XN.en en1).trans (.of e13))
    have src3 := (src2.en en1).mono e13
    have tabs3 := tb1.ext e13
    have hl3 := e13 _ _ (en1 _ _ hl2 (fun _ z => nomatch z))
    clear eX e2 eG3 e13 two hr3 nr3 shv skt skT htg lod bod badG bad2 en1 tb1 tabs2 hl2 src2 X2 nx ndx ne
    dsimp only [tNext]
    show tSeq _ _ _ [_, _, _, _, _, _, _, _, _, _, _, _] _
    refine ⟨_, rfl, _, rfl, l, _, rfl, .inl ⟨SqL.of hl3, ?_⟩⟩
    (intro tz ntz; generalize hGtz : upd _ tz _ = K1; have eK1 := exG hGtz ntz; have htz := atG hGtz; clear hGtz)
    refine ⟨slen rfl, ?_⟩
    (intro ll nll; generalize hGll : upd _ ll _ = K2; have eK2 := exG hGll nll; have hll := atG hGll; clear hGll)
    have nll := (src3.mono eK1).ne nll
    have srcK := src3.mono (ext eK1 eK2)
    refine ⟨_, rfl, s, 2, rfl, srcK, by decide, by decide +kernel, fun r K3 q0 q1 xb srcL => ?_⟩
    obtain ⟨qb, hqb, sqb⟩ : ∃ qb : Bool × Addr, atI [V.ref l, .ref tz] r = some (.ref qb.2) ∧ SqH K3 qb (ns.map V.int) := by
      have r2 : r = 0 ∨ r = 1 := by omega
      rcases r2 with rfl | rfl
      · exact ⟨(false, l), rfl, xb _ _ nls ((ext eK1 eK2) _ _ hl3)⟩
      · exact ⟨(true, tz), rfl, tup_xb srcK (eK2 _ _ htz) xb⟩
    refine ⟨ll, _, _, _, rfl, rfl, SqL.of (xb _ _ nll hll), hqb, ?_⟩
    have hl4 := xb _ _ nls ((ext eK1 eK2) _ _ hl3)
    have X4 : XN s H0 K3 := X3.trans ((XN.of (ext eK1 eK2)).trans (.xb xb))
    have tabs4 := Tabs.xb (tabs3.ext (ext eK1 eK2)) srcK xb
    clear hl3 X3 tabs3 xb srcK eK1 eK2 hll hqb htz nll src3
    refine mk_tab (b := qb.1) sqb ok fun bd K4 e4 nbd tab => ?_
    have hl5 := e4 _ _ hl4
    dsimp only [gName]
    show tSeq _ _ _ [_, _, _, _, _, _, _, _, _, _, _, _] _
    refine ⟨_, rfl, l, rfl, ⟨_, SqL.of hl5⟩, fun D hD => ?_⟩
    refine lc_vals (walk_list (xs := ns.map V.int)) ((ns.map fun n => n - 1).map V.int) (by rw [List.length_map, List.length_map, List.length_map]) (by rw [List.length_map]; omega) hD (fun Hx e => SqL.of (e _ _ hl5)) ?_ gmono_name ?_
    · rintro i x Ha Hb R hi e ⟨rfl, hx⟩ kk
      obtain ⟨m, hm, rfl⟩ := map_get hx
      refine ⟨rfl, _, rfl, _, _, rfl, rfl, kk _ _ exr ?_⟩
      rw [List.getElem?_map, List.getElem?_map, hm]
      rfl
    intro HD eD hDD
    refine ⟨D, _, rfl, .inl ⟨SqL.of hDD, ?_⟩⟩
    (intro la nla; generalize hGla : upd _ la _ = K5; have eK5 := exG hGla nla; have hla := atG hGla; clear hGla)
    have e5 := ext eD eK5
    have tab5 := tab.mono e5
    have hl6 := e5 _ _ hl5
    have src5 := (srcL.mono e4).mono e5
    have tabs5 := (tabs4.ext e4).ext e5
    have X5 : XN s H0 K5 := X4.trans (XN.of (ext e4 e5))
    clear hDD hD eD eK5 e5 e4 hl5 hl4 tab tabs4 X4 srcL sqb nla
    have hla := hla
    dsimp only [gName]
    show tSeq _ _ _ [_, _, _, _, _, _, _, _, _, _, _, _] _
    refine ⟨_, rfl, _, rfl, s, l, ns, rfl, src5, hl6, nls, ok, le, fun vO dO G1 qO bO xb1 src1 => ?_⟩
    have hl1 := xb1 _ _ nls hl6
    refine ⟨_, rfl, _, rfl, s, l, ns, rfl, src1, hl1, nls, ok, fun vC dC G2 qC bC xb2 src2 => ⟨slen rfl, ?_⟩⟩
    (intro tp ntp; generalize hGtp : upd _ tp _ = G3; have eG3 := exG hGtp ntp; have htp := atG hGtp; clear hGtp)
    refine ⟨tp, _, rfl, SqT.of htp, rfl, _, _, rfl, _, _, rfl, rfl, ?_⟩
    have qO3 := (qO.xb src1 xb2).mono eG3
    have qC3 := qC.mono eG3
    have xb3 : XB s K5 G3 := xb1.trans (xb2.trans (XB.of eG3))
    have hl3 := xb3 _ _ nls hl6
    have hla3 := tup_xb src5 (show K5 la = _ from hla) xb3
    have tab3 := (XN.xb xb3).tab src5 tab5
    have tabs3 := Tabs.xb tabs5 src5 xb3
    have src3 := src2.mono eG3
    have X3 := X5.trans (XN.xb xb3)
    clear qO qC htp eG3 xb1 xb2 xb3 hl1 hl6 hla tab5 tabs5 src5 src1 src2 X5
    dsimp only [gName]
    show tSeq _ _ _ [_, _, _, _, _, _, _, _, _, _, _, _] _
    refine ⟨slen rfl, ?_⟩
    (intro w6 nw6; generalize hGw6 : upd _ w6 _ = H1; have eH1 := exG hGw6 nw6; have hw6 := atG hGw6; clear hGw6)
    refine ⟨slen rfl, ?_⟩
    (intro w7 nw7; generalize hGw7 : upd _ w7 _ = H2; have eH2 := exG hGw7 nw7; have hw7 := atG hGw7; clear hGw7)
    refine fun w8 nw8 => ?_
    generalize hG : upd H2 w8 _ = H3
    have eH3 := exG hG nw8
    have hw8 := atG hG
    clear hG
    refine ⟨slen rfl, ?_⟩
    (intro wl nwl; generalize hGwl : upd _ wl _ = H4; have eH4 := exG hGwl nwl; have hwl := atG hGwl; clear hGwl)
    have t2 := ext eH1 eH2
    have t4 := ext t2 (ext eH3 eH4)
    have nw6 := src3.ne nw6
    have nwl := (src3.mono (ext t2 eH3)).ne nwl
    have src4 := src3.mono t4
    have dqW : DqAll (· ≠ s) H4 [V.non, .str "on", .str "Forward", .str "", .int 1, .bl true, .ref w6, .ref w7, .ref w8, .str "forward "] [.none, .str "on", .str "Forward", .str "", .int 1, .bool true, .list [], .tuple [.str "forward"], .dict [], .str "forward "] :=
      .cons .non (.cons (.str _) (.cons (.str _) (.cons (.str _) (.cons (.int 1) (.cons (.bl _) (.cons (.lst ((ext eH2 (ext eH3 eH4)) _ _ hw6) nw6 .nil) (.cons (.tup ((ext eH3 eH4) _ _ hw7) (.cons (.str _) .nil)) (.cons (.emp (eH4 _ _ hw8)) (.cons (.str _) .nil)))))))))
    have bads : ∀ d ∈ ([.none, .str "on", .str "Forward", .str "", .int 1, .bool true, .list [], .tuple [.str "forward"], .dict [], .str "forward "] : List PyData), BadW d := fun d hd => by
      simp only [List.mem_cons, List.not_mem_nil, or_false] at hd
      rcases hd with rfl | rfl | rfl | rfl | rfl | rfl | rfl | rfl | rfl | rfl
      · exact ⟨shn_none, rfl⟩
      · exact ⟨shn_word (by decide +kernel) (by decide +kernel), by decide +kernel⟩
      · exact ⟨shn_word (by decide +kernel) (by decide +kernel), by decide +kernel⟩
      · exact ⟨shn_word (by decide +kernel) (by decide +kernel), by decide +kernel⟩
      · exact ⟨shn_of (s_int (by decide)), rfl⟩
      · exact ⟨shn_of (s_bool true), rfl⟩
      · exact ⟨shn_list (by simp) (by simp), rfl⟩
      · exact ⟨shn_tup (by simp) (fun d hd => by rw [List.mem_singleton.mp hd]; exact s_word (by decide +kernel) (by decide +kernel)), rfl⟩
      · exact ⟨shn_emp, rfl⟩
      · exact ⟨shn_word (by decide +kernel) (by decide +kernel), by decide +kernel⟩
    refine ⟨_, rfl, s, 10, rfl, src4, by decide, by decide +kernel, fun r G1 q0 q1 xb1 src1 => ?_⟩
    obtain ⟨_, vW, dW, _, _, gW, _, mW, qW0⟩ := dqW.at q0 (by simpa using q1)
    have qW := qW0.xb src4 xb1
    have bW := bads dW mW
    refine ⟨wl, _, _, _, rfl, rfl, SqL.of (xb1 _ _ nwl hwl), gW, ?_⟩
    have xb : XB s G3 G1 := (XB.of t4).trans xb1
    have hl1 := xb _ _ nls hl3
    have hla1 := tup_xb src3 hla3 xb
    have tab1 := (XN.xb xb).tab src3 tab3
    have tabs1 := Tabs.xb (tabs3.ext t4) src4 xb1
    have X1 := X3.trans (XN.xb xb)
    have qO1 := qO3.xb src3 xb
    have qC1 := qC3.xb src3 xb
    clear dqW bads gW mW qW0 xb1 src4 hw6 hw7 hw8 hwl nw6 nwl nw8 nw7 t2 t4 eH1 eH2 eH3 eH4 xb hl3 hla3 tab3 tabs3 X3 qO3 qC3 src3
    dsimp only [gName]
    show tSeq _ _ _ [_, _, _, _, _, _, _, _, _, _, _, _] _
    refine ⟨_, rfl, _, rfl, s, l, ns, rfl, src1, hl1, nls, ok, fun qc cs G2 nqc hqc lcs _ xb2 src2 => ?_⟩
    have hla2 := tup_xb src1 hla1 xb2
    have tab2 := (XN.xb xb2).tab src1 tab1
    have tabs2 := Tabs.xb tabs1 src1 xb2
    have X2 := X1.trans (XN.xb xb2)
    have qO2 := qO1.xb src1 xb2
    have qC2 := qC1.xb src1 xb2
    have qW2 := qW.xb src1 xb2
    clear hl1 hla1 tab1 tabs1 X1 qO1 qC1 qW xb2 src1 nqc
    dsimp only [gName]
    show tSeq _ _ _ [_, _, _, _, _, _, _, _, _, _, _, _] _
    refine ⟨tabs2, fun f1 Ga en1 tba nf1 lam1 => ?_⟩
    refine ⟨slen rfl, ?_⟩
    (intro al nal; generalize hGal : upd _ al _ = Gb; have eGb := exG hGal nal; have hal := atG hGal; clear hGal)
    have EAb : EA al G2 Gb := EA.start en1 nal eGb
    have tbb := tba.ext eGb
    have lam1 := lam_mono eGb lam1
    have hab := hal
    clear hal eGb nal tba en1
    dsimp only [gName]
    show tSeq _ _ _ [_, _, _, _, _, _, _, _, _, _, _, _] _
    refine ⟨_, rfl, .inl ⟨rfl, _, SqL.of hab⟩, tbb, fun f2 Gc en tbc nf2 lam2 => ?_⟩
    have hac := en _ _ hab (fun _ z => nomatch z)
    have lam1 := lam1.ext en
    refine ⟨al, _, _, rfl, rfl, hac, (by show 1 < sizeLine; decide), ?_⟩
    replace lam1 := lam_updl (ys := [V.ref f1, V.ref f2]) hac lam1
    replace lam2 := lam_updl (ys := [V.ref f1, V.ref f2]) hac lam2
    replace tbb := tabs_updl (ys := [V.ref f1, V.ref f2]) hac tbc
    replace EAb := (EAb.ext en).upd (o := .lst [V.ref f1, V.ref f2])
    replace hab : upd Gc al (.lst [V.ref f1, V.ref f2]) al = some (.lst [V.ref f1, V.ref f2]) := upd_same
    clear hac en tbc
    show tSeq _ _ _ [_, _, _, _, _, _, _, _, _, _, _, _] (upd Gc al (.lst [V.ref f1, V.ref f2]))
    generalize upd Gc al (.lst [V.ref f1, V.ref f2]) = Gd at *
    refine ⟨_, rfl, .inl ⟨rfl, _, SqL.of hab⟩, tbb, fun f3 Gc en tbc nf3 lam3 => ?_⟩
    have hac := en _ _ hab (fun _ z => nomatch z)
    have lam1 := lam1.ext en
    have lam2 := lam2.ext en
    refine ⟨al, _, _, rfl, rfl, hac, (by show 2 < sizeLine; decide), ?_⟩
    replace lam1 := lam_updl (ys := [V.ref f1, V.ref f2, V.ref f3]) hac lam1
    replace lam2 := lam_updl (ys := [V.ref f1, V.ref f2, V.ref f3]) hac lam2
    replace lam3 := lam_updl (ys := [V.ref f1, V.ref f2, V.ref f3]) hac lam3
    replace tbb := tabs_updl (ys := [V.ref f1, V.ref f2, V.ref f3]) hac tbc
    replace EAb := (EAb.ext en).upd (o := .lst [V.ref f1, V.ref f2, V.ref f3])
    replace hab : upd Gc al (.lst [V.ref f1, V.ref f2, V.ref f3]) al = some (.lst [V.ref f1, V.ref f2, V.ref f3]) := upd_same
    clear hac en tbc
    show tSeq _ _ _ [_, _, _, _, _, _, _, _, _, _, _, _] (upd Gc al (.lst [V.ref f1, V.ref f2, V.ref f3]))
    generalize upd Gc al (.lst [V.ref f1, V.ref f2, V.ref f3]) = Gd at *
    refine ⟨_, rfl, .inl ⟨rfl, _, SqL.of hab⟩, tbb, fun f4 Gc en tbc nf4 lam4 => ?_⟩
    have hac := en _ _ hab (fun _ z => nomatch z)
    have lam1 := lam1.ext en
    have lam2 := lam2.ext en
    have lam3 := lam3.ext en
    refine ⟨al, _, _, rfl, rfl, hac, (by show 3 < sizeLine; decide), ?_⟩
    replace lam1 := lam_updl (ys := [V.ref f1, V.ref f2, V.ref f3, V.ref f4]) hac lam1
    replace lam2 := lam_updl (ys := [V.ref f1, V.ref f2, V.ref f3, V.ref f4]) hac lam2
    replace lam3 := lam_updl (ys := [V.ref f1, V.ref f2, V.ref f3, V.ref f4]) hac lam3
    replace lam4 := lam_updl (ys := [V.ref f1, V.ref f2, V.ref f3, V.ref f4]) hac lam4
    replace tbb := tabs_updl (ys := [V.ref f1, V.ref f2, V.ref f3, V.ref f4]) hac tbc
    replace EAb := (EAb.ext en).upd (o := .lst [V.ref f1, V.ref f2, V.ref f3, V.ref f4])
    replace hab : upd Gc al (.lst [V.ref f1, V.ref f2, V.ref f3, V.ref f4]) al = some (.lst [V.ref f1, V.ref f2, V.ref f3, V.ref f4]) := upd_same
    clear hac en tbc
    show tSeq _ _ _ [_, _, _, _, _, _, _, _, _, _, _, _] (upd Gc al (.lst [V.ref f1, V.ref f2, V.ref f3, V.ref f4]))
    generalize upd Gc al (.lst [V.ref f1, V.ref f2, V.ref f3, V.ref f4]) = Gd at *
    have XD : XN s G2 Gd := EAb.xn
    have srcD := EAb.src src2
    have tabD := XD.tab src2 tab2
    have hlaD := XD.tup src2 hla2
    have hqcD := XD.tup src2 hqc
    have qOD := qO2.xn src2 XD
    have qCD := qC2.xn src2 XD
    have qWD := qW2.xn src2 XD
    have skS : Sk "seat" := sk_of _
    have skC : Sk "call" := sk_of _
    have skD : Sk "direction" := sk_of _
    have dS : PyData := .tuple [.str "seat", .str dO.shown]
    refine ⟨_, rfl, al, rfl, ⟨_, SqL.of hab⟩, fun D hD => ?_⟩
    refine lc_new PdT pdT_mono (walk_list (xs := [V.ref f1, V.ref f2, V.ref f3, V.ref f4])) (List.replicate 4 (.tuple [.str "seat", .str dO.shown])) rfl (by show 4 ≤ 10000000; decide) hD (fun Hx e => SqL.of (e _ _ hab)) ?_ gmono_name ?_
    · rintro i x av Hx Hy R hia ex ⟨rfl, hx⟩ kk
      obtain rfl : av = .tuple [.str "seat", .str dO.shown] := List.eq_of_mem_replicate (List.mem_of_getElem? hia)
      have il : i < 4 := (List.getElem?_eq_some_iff.mp hx).1
      have i4 : i = 0 ∨ i = 1 ∨ i = 2 ∨ i = 3 := by omega
      have tabY := tabD.mono ex
      obtain ⟨dx, tt, g1, g2⟩ := id tabY
      have qOY := qOD.mono ex
      have raiY : Rai (ErrR K T.C_InvalidTable T.C_InvalidSeat T.C_InvalidCall T.C_InvalidDirection R) Hy T.C_InvalidSeat "seat" vO := rai_seat (qOY.shV bO.sh) fun G r e t => kk _ G e (PdT.of t skS bO.sh.2)
      have scY : ∀ ok', SeatCall K T.C_Table T.C_InvalidSeat T.C_InvalidCall Hy (ErrR K T.C_InvalidTable T.C_InvalidSeat T.C_InvalidCall T.C_InvalidDirection R) bd vO vC ns (oT dO) (oT dC) ok' := fun _ => ⟨tabY, ok, qOY.tA bO.short, fun G e => ((qCD.mono ex).mono e).tA bC.short, fun _ => raiY, (fun z => by rw [bO.no] at z; cases z), fun z => by rw [bO.no] at z; cases z⟩
      refine ⟨rfl, _, rfl, ?_⟩
      rcases i4 with rfl | rfl | rfl | rfl
      · obtain rfl : V.ref f1 = x := Option.some.inj hx
        exact ⟨f1, _, rfl, lam_mono ex lam1, _, rfl, bd, dx, _, rfl, g1, rfl, _, rfl, _, rfl, bd, vO, vC, ns, _, _, rfl, scY _⟩
      · obtain rfl : V.ref f2 = x := Option.some.inj hx
        exact ⟨f2, _, rfl, lam_mono ex lam2, _, rfl, bd, dx, _, rfl, g1, rfl, _, rfl, _, rfl, _, rfl, bd, vO, vC, vW, ns, _, _, strD dW, rfl, (fun G e => ((qWD.mono ex).mono e).strA), scY _⟩
      · obtain rfl : V.ref f3 = x := Option.some.inj hx
        exact ⟨f3, _, rfl, lam_mono ex lam3, _, rfl, bd, dx, _, rfl, g1, rfl, _, rfl, bd, vO, ns, _, rfl, tabY, l4, qOY.tA bO.short, bO.no, raiY⟩
      · obtain rfl : V.ref f4 = x := Option.some.inj hx
        exact ⟨f4, _, rfl, lam_mono ex lam4, _, rfl, bd, dx, _, rfl, g1, rfl, _, rfl, bd, vO, ns, _, rfl, tabY, l4, qOY.tA bO.short, bO.no, raiY⟩
    intro Hd ys ed hyd pd
    refine ⟨_, rfl, vO, _, rfl, (qOD.mono ed).shV bO.sh _ exr, slen rfl, ?_⟩
    (intro r1 nr1; generalize hGr1 : upd _ r1 _ = K1; have eK1 := exG hGr1 nr1; have hr1 := atG hGr1; clear hGr1)
    refine ⟨slen rfl, ?_⟩
    (intro r2 nr2; generalize hGr2 : upd _ r2 _ = K2; have eK2 := exG hGr2 nr2; have hr2 := atG hGr2; clear hGr2)
    refine ⟨r2, 4, _, rfl, rfl, hr2, by decide, by decide, by show 1 * 4 ≤ sizeLine; decide, ?_⟩
    (intro r3 nr3; generalize hGr3 : upd _ r3 _ = K3; have eK3 := exG hGr3 nr3; have hr3 := atG hGr3; clear hGr3)
    have el := ext eK1 (ext eK2 eK3)
    have pdl := pdT_all (K := K) (paired_mono (fun v a q => pdT_mono Hd K3 v a (fun c ws z => el _ _ z) q) pd)
    have r1g : PdT K3 (.ref r1) (.tuple [.str "seat", .str dO.shown]) := PdT.of ((ext eK2 eK3) _ _ hr1) skS bO.sh.2
    have pdr := pdT_all (K := K) (vs := [V.ref r1, V.ref r1, V.ref r1, V.ref r1]) (ds := List.replicate 4 (.tuple [.str "seat", .str dO.shown])) (.cons r1g (.cons r1g (.cons r1g (.cons r1g .nil))))
    have shl : Sh 60 (PyData.list (List.replicate 4 (.tuple [.str "seat", .str dO.shown]))) := (sh_list (n := 3) pdr.2).up (by decide)
    refine ⟨_, _, .lst (SqL.of (el _ _ hyd)) pdl.1, .lst (SqL.of hr3) pdr.1, shl.ok, shl.ok, _, rfl, itf (by rw [eqv_same shl]) ?_⟩
    have e3 := ext ed el
    have X3 : XN s H0 K3 := X2.trans (XD.trans (.of e3))
    have src3 := srcD.mono e3
    have tabs3 := tbb.ext e3
    have tab3 := tabD.mono e3
    have hla3 := e3 _ _ hlaD
    have hqc3 := e3 _ _ hqcD
    have qC3 := qCD.mono e3
    have qW3 := qWD.mono e3
    have sk : SeatOk ns (ns.map fun n => n - 1) := last_seat ok.one
    have isl : isSeatO ns (some ((ns.map fun n => n - 1).map some)) = true := isSeat_ok sk
    have lla : (ns.map fun n => n - 1).length = ns.length := by rw [List.length_map]
    clear pdl pdr r1g shl hr1 hr2 hr3 hyd pd ed el eK1 eK2 eK3 nr1 nr2 nr3 hD hab EAb tbb lam1 lam2 lam3 lam4 nf1 nf2 nf3 nf4 tabD XD srcD hlaD hqcD qOD qCD qWD dS tab2 hla2 hqc src2 X2 qO2 qC2 qW2 e3
    generalize (ns.map fun n => n - 1) = ps at hla3 sk isl lla
    dsimp only [tNext]
    show tSeq _ _ _ [_, _, _, _, _, _, _, _, _, _, _, _] _
    refine ⟨tabs3, fun G1 en1 tb1 => ?_⟩
    have X1 : XN s K3 G1 := .en en1
    have tabG := X1.tab src3 tab3
    have hlaG := X1.tup src3 hla3
    have hqcG := X1.tup src3 hqc3
    have qCG := qC3.xn src3 X1
    have qWG := qW3.xn src3 X1
    obtain ⟨dx, tt, g1, g2⟩ := id tabG
    refine ⟨_, rfl, bd, dx, _, rfl, g1, rfl, _, rfl, _, rfl, bd, .ref la, vC, ns, _, oT dC, rfl, ⟨tabG, ok, TupA.ints hlaG (by omega), fun G e => (qCG.mono e).tA bC.short, (fun z => by rw [isl] at z; cases z), fun _ _ => rai_call (qCG.shV bC.sh) fun G2 r2 e2 two => ?_, fun _ z => by rw [bC.no] at z; cases z⟩⟩
    refine ⟨_, rfl, vC, _, rfl, qCG.shV bC.sh _ e2, slen rfl, ?_⟩
    (intro r3 nr3; generalize hGr3 : upd _ r3 _ = G3; have eG3 := exG hGr3 nr3; have hr3 := atG hGr3; clear hGr3)
    refine pdT_ne (PdT.of (eG3 _ _ two) skC bC.sh.2) (PdT.of hr3 skC bC.sh.2) ⟨_, rfl, itf rfl ?_⟩
    have e3 := ext e2 eG3
    have X3 : XN s H0 G3 := X3.trans (X1.trans (.of e3))
    have src3 := (src3.en en1).mono e3
    have tabs3 := tb1.ext e3
    have tab3 := tabG.mono e3
    have hla3 := e3 _ _ hlaG
    have hqc3 := e3 _ _ hqcG
    have qC3 := qCG.mono e3
    have qW3 := qWG.mono e3
    clear e2 eG3 two hr3 e3 nr3 qWG qCG hqcG hlaG tabG g1 g2 tb1 en1 X1
    dsimp only [tNext]
    show tSeq _ _ _ [_, _, _, _, _, _, _, _, _, _, _, _] _
    refine ⟨tabs3, fun G1 en1 tb1 => ?_⟩
    have X1 : XN s G3 G1 := .en en1
    have tabG := X1.tab src3 tab3
    have hlaG := X1.tup src3 hla3
    have hqcG := X1.tup src3 hqc3
    have qCG := qC3.xn src3 X1
    have qWG := qW3.xn src3 X1
    obtain ⟨dx, tt, g1, g2⟩ := id tabG
    refine ⟨_, rfl, bd, dx, _, rfl, g1, rfl, _, rfl, _, rfl, _, rfl, bd, .ref la, vC, vW, ns, _, oT dC, strD dW, rfl, (fun G e => (qWG.mono e).strA), ⟨tabG, ok, TupA.ints hlaG (by omega), fun G e => (qCG.mono e).tA bC.short, (fun z => by rw [isl] at z; cases z), fun _ _ => rai_call (qCG.shV bC.sh) fun G2 r2 e2 two => ?_, fun _ z => by rw [bC.no] at z; cases z⟩⟩
    refine ⟨_, rfl, vC, _, rfl, qCG.shV bC.sh _ e2, slen rfl, ?_⟩
    (intro r3 nr3; generalize hGr3 : upd _ r3 _ = G3b; have eG3b := exG hGr3 nr3; have hr3 := atG hGr3; clear hGr3)
    refine pdT_ne (PdT.of (eG3b _ _ two) skC bC.sh.2) (PdT.of hr3 skC bC.sh.2) ⟨_, rfl, itf rfl ?_⟩
    have e3 := ext e2 eG3b
    have X3 : XN s H0 G3b := X3.trans (X1.trans (.of e3))
    have src3 := (src3.en en1).mono e3
    have tabs3 := tb1.ext e3
    have tab3 := tabG.mono e3
    have hla3 := e3 _ _ hlaG
    have hqc3 := e3 _ _ hqcG
    have qC3 := qCG.mono e3
    have qW3 := qWG.mono e3
    clear e2 eG3b two hr3 e3 nr3 qWG qCG hqcG hlaG tabG g1 g2 tb1 en1 X1
    dsimp only [tNext]
    show tSeq _ _ _ [_, _, _, _, _, _, _, _, _, _, _, _] _
    refine ⟨tabs3, fun G1 en1 tb1 => ?_⟩
    have X1 : XN s G3b G1 := .en en1
    have tabG := X1.tab src3 tab3
    have hlaG := X1.tup src3 hla3
    have hqcG := X1.tup src3 hqc3
    have qCG := qC3.xn src3 X1
    have qWG := qW3.xn src3 X1
    obtain ⟨dx, tt, g1, g2⟩ := id tabG
    refine ⟨_, rfl, bd, dx, _, rfl, g1, rfl, _, rfl, _, rfl, _, rfl, bd, .ref la, .ref qc, vW, ns, _, some (cs.map some), strD dW, rfl, (fun G e => (qWG.mono e).strA), ⟨tabG, ok, TupA.ints hlaG (by omega), fun G e => TupA.ints (e _ _ hqcG) (by omega), (fun z => by rw [isl] at z; cases z), (fun _ z => by rw [isCall_ok lcs] at z; cases z), fun _ _ => ⟨la, qc, ps, cs, rfl, rfl, hlaG, hqcG, sk, lcs, fun _ => rai_dir (qWG.shV bW.1) fun G2 r2 e2 two => ?_, fun z => by rw [bW.2] at z; cases z⟩⟩⟩
    refine ⟨_, rfl, vW, _, rfl, qWG.shV bW.1 _ e2, slen rfl, ?_⟩
    (intro r3 nr3; generalize hGr3 : upd _ r3 _ = G3c; have eG3c := exG hGr3 nr3; have hr3 := atG hGr3; clear hGr3)
    refine pdT_ne (PdT.of (eG3c _ _ two) skD bW.1.2) (PdT.of hr3 skD bW.1.2) ⟨_, rfl, itf rfl ?_⟩
    have e3 := ext e2 eG3c
    have X3 : XN s H0 G3c := X3.trans (X1.trans (.of e3))
    have src3 := (src3.en en1).mono e3
    have tabs3 := tb1.ext e3
    have tab3 := tabG.mono e3
    have hla3 := e3 _ _ hlaG
    have hqc3 := e3 _ _ hqcG
    have qC3 := qCG.mono e3
    have qW3 := qWG.mono e3
    clear e2 eG3c two hr3 e3 nr3 qWG qCG hqcG hlaG tabG g1 g2 tb1 en1 X1
    dsimp only [tNext]
    refine ⟨tabs3, fun G1 en1 tb1 => ?_⟩
    have X1 : XN s G3c G1 := .en en1
    have tabG := X1.tab src3 tab3
    have hlaG := X1.tup src3 hla3
    have hqcG := X1.tup src3 hqc3
    have qCG := qC3.xn src3 X1
    have qWG := qW3.xn src3 X1
    obtain ⟨dx, tt, g1, g2⟩ := id tabG
    refine ⟨_, rfl, bd, dx, _, rfl, g1, rfl, _, rfl, _, rfl, bd, .ref la, .ref qc, .str "forward", ns, _, some (cs.map some), some "forward", rfl, (fun G e => rfl), ⟨tabG, ok, TupA.ints hlaG (by omega), fun G e => TupA.ints (e _ _ hqcG) (by omega), (fun z => by rw [isl] at z; cases z), (fun _ z => by rw [isCall_ok lcs] at z; cases z), fun _ _ => ⟨la, qc, ps, cs, rfl, rfl, hlaG, hqcG, sk, lcs, (fun z => absurd z (by decide +kernel)), fun _ => ⟨false, rfl, fun v G2 e2 => ⟨by decide, fun r2 nr2 => ?_⟩⟩⟩⟩⟩
    have two : TwoS (upd G2 r2 (.tup [.str "none", .str ""])) r2 "none" (.str "") := upd_same
    have eU := exn (o := .tup [.str "none", .str ""]) nr2
    generalize upd G2 r2 (.tup [.str "none", .str ""]) = G3 at two eU
    refine ⟨slen rfl, ?_⟩
    (intro r4 nr4; generalize hGr4 : upd _ r4 _ = G4; have eG4 := exG hGr4 nr4; have hr4 := atG hGr4; clear hGr4)
    have skN : Sk "none" := sk_of _
    have skE : Sk "" := sk_of _
    have e4 := ext e2 (ext eU eG4)
    exact pdT_eq (PdT.of (eG4 _ _ two) skN skE) (PdT.of hr4 skN skE) (k _ (X3.trans (X1.trans (.of e4))) ((src3.en en1).mono e4) (tb1.ext e4))
end

-- a class that raises in its __init__, called inside of try
section
variable {X : Cx} {CX : CXT} {k : Nat} {f C : Addr} {fd : FuncData} {ps : List Str} {sp : Sp} {E : L2.St → XK} {x : Str} {p pos : Pos} {e : Expr} {es : List Expr} {t : TA}
theorem run_makeP {pins : List (Addr × Obj)} {σ : L2.St} {H : Hp} {s : Shared} {Q : VK} {us : List Value} {vs : List V} (M : Mk X.K C f) (F : FnOk X.prog X.w X.K X.mg X.base CX k f fd ps sp) (hr : Room (k + 1) X.A) (hb : Binds X.K fd ps []) (hx : PassesAt CX X σ (E σ)) (I : Inv X pins σ H s) (r : Vals vs us)
    (h : ∀ x dx, H x = none → H dx = none → dx ≠ x → sp (.ref x :: vs) (upd (upd H dx (.own x)) x (.ins C dx [])) (fun v H2 => v = .non ∧ Q (.ref x) H2) (E σ)) : wpAny (model X.prog X.w) X.A (call (.ref C) us) (EP X pins σ Q) X.xe s := by
  obtain ⟨n, hn⟩ : ∃ n, s.heap.objs.size = n := ⟨_, rfl⟩
  have f1 : H (n + 1) = none := I.hok.fresh (hn ▸ Nat.le_succ _)
  have f0 : H n = none := I.hok.fresh (hn ▸ Nat.le_refl _)
  have q := h (n + 1) n f1 f0 (Nat.ne_of_lt (Nat.lt_succ_self n))
  subst hn
  have J := Inv.made (C := C) I
  have rs : Vals (V.ref (s.heap.objs.size + 1) :: vs) (Value.ref (s.heap.objs.size + 1) :: us) := .cons rfl r
  have len : (Value.ref (s.heap.objs.size + 1) :: us).length = ps.length := rs.length ▸ F.len _ _ _ _ q
  have bd := hb _ (Value.ref (s.heap.objs.size + 1) :: us) J.kIn (by rw [List.append_nil]; exact len)
  rw [List.append_nil] at bd
  have body := F.run _ X.stack _ _ ⟨Value.ref (s.heap.objs.size + 1) :: us, []⟩ (Value.ref (s.heap.objs.size + 1) :: us) _ _ (E σ) (hr.make C us []) (J.env0.make C us []) bd rs q
  refine wpAny_call (make_map (f := f) I.kIn M.makes M.init (beq_iff_eq.mp M.fn) (codeAny_mono body fun out s2 got => ?_))
  match out, got with
  | .error err, got => exact hx pins _ _ err s2 J got
  | .ok (.ret u), got =>
    obtain ⟨_, H2, J2, rv, rfl, q2⟩ := J.after got
    exact ⟨rv, V.ref (s.heap.objs.size + 1), H2, J2, rfl, q2⟩
def tMakeP (C : Addr) (sp : Sp) (E : L2.St → XK) (t : TA) : TE := fun σ H Q => t σ H fun vs H1 => ∀ x dx, H1 x = none → H1 dx = none → dx ≠ x → sp (.ref x :: vs) (upd (upd H1 dx (.own x)) x (.ins C dx [])) (fun v H2 => v = .non ∧ Q (.ref x) H2) (E σ)
theorem pe_makeP (M : Mk X.K C f) (F : FnOk X.prog X.w X.K X.mg X.base CX k f fd ps sp) (hr : Room (k + 1) X.A) (hg : Gl X x) (hm : X.mg x = some (.ref C)) (hb : Binds X.K fd ps []) (hx : ∀ σ, PassesAt CX X σ (E σ)) (ha : PA X (e :: es) t) (hdb : (x == ("__debug__" : Str)) = false := by decide)
    (he : starEach (e :: es) X.env = (false, eval e X.env) :: starEach es X.env := by rfl) (hpl : (backTo pos (starEach es X.env)).any (·.1) = false := by rfl) : PE X (.Call (.Name x p) (e :: es) [] pos) (tMakeP C sp E t) := by
  refine ⟨fun pins s σ H Q I h => ?_⟩
  have arg := ha.run pos pins s σ H _ I h
  refine wpAny_Call_Name_kw (ld_glob I hg hm (PySem.W.callWith_K (h₀ := X.base) I.ok.mod.kin M.kp (thn arg fun us s1 got => ?_) he hpl) hdb)
  obtain ⟨vs, H1, J, r, q⟩ := got
  exact ⟨J.kIn, run_makeP M F hr hb (hx σ) J r q⟩
end

section
variable {P : Program} {w : World} {K : PySem.W.Frag} {mg : Str → Option Value} {base : Heap}
def sp_Table_count (C : Addr) : Sp := fun vs H Q _ => ∃ (a : Addr) (ns : List Int), vs = [.ref a] ∧ TabAt C H a ns ∧ (∀ i, i < ns.length → 0 ≤ (ns.take i).foldl (· * ·) 1 ∧ (ns.take i).foldl (· * ·) 1 ≤ 10 ^ 9) ∧ Q (.int (ns.foldl (· * ·) 1)) H
theorem ok_Table_count (T : TX K mg) : FnOk P w K mg base CX0 1 T.f_Table_count T.fd_Table_count ["self"] (sp_Table_count T.C_Table) := by
  refine T.F_Table_count.ok sc_Table_count (fun vs H Q E h => ?_) (fun cdv A outer s H vs Q E hr h => ?_)
  · obtain ⟨a, ns, rfl, _⟩ := h
    rfl
  · obtain ⟨a, ns, rfl, ⟨dx, t, h1, h2⟩, hB, k⟩ := h
    refine ⟨_, (pss_cons (ps_set (i := 1) sc_Table_count.nd rfl (Or.inl rfl) pe_int) (pss_cons (ps_for PassesOwn.never rfl (pi_tup (pe_fld (pv 0) rfl)) (pg_name (i := 2) sc_Table_count.nd rfl (Or.inl rfl)) (pss_one (ps_set (i := 1) sc_Table_count.nd rfl (Or.inl rfl) (pe_op op_mulI (pv 1) (pv 2))))) (pss_one (ps_ret (pv 1))))), ?_⟩
    refine ⟨_, rfl, a, _, dx, _, _, rfl, h1, T.cl_Table, T.n_Table_rings, rfl, t, rfl, ⟨_, SqT.of h2⟩, ?_⟩
    refine for_it (walk_tup (xs := ns.map V.int)) (fun i σ H2 => ∃ y : Option V, σ = [some (.ref a), some (.int ((ns.take i).foldl (· * ·) 1)), y] ∧ H2 = H) ⟨none, rfl, rfl⟩ (fun i σ H2 _ ⟨_, _, e⟩ => by rw [e]; exact SqT.of h2) ?_ ?_
    · rintro i x σ H2 H3 hi ⟨y, rfl, rfl⟩ ⟨rfl, hx⟩
      obtain ⟨n, hn, rfl⟩ := map_get hx
      obtain ⟨b1, b2⟩ := hB i (List.getElem?_eq_some_iff.mp hn).1
      refine ⟨_, rfl, _, rfl, _, _, rfl, rfl, mul_ok (.inl ⟨by omega, by omega⟩), some (.int n), ?_, rfl⟩
      rw [take_more hn, List.foldl_append]
      rfl
    · rintro σ H2 ⟨y, rfl, rfl⟩
      rw [List.length_map, List.take_length]
      exact ⟨_, rfl, k⟩
def sp_law_huge_values : Sp := fun vs H Q _ => vs = [] ∧ ∀ H2, Ex H H2 → Q (.bl true) H2
theorem ok_law_huge_values (T : TX K mg) : FnOk P w K mg base CX0 7 T.f_law_huge_values T.fd_law_huge_values [] sp_law_huge_values := by
  refine T.F_law_huge_values.ok sc_law_huge_values (fun vs H Q E h => ?_) (fun cdv A outer s H vs Q E hr h => ?_)
  · rw [h.1]
    rfl
  · obtain ⟨rfl, k⟩ := h
    refine ⟨_, (pss_cons (ps_set (i := 0) sc_law_huge_values.nd rfl (Or.inl rfl) (pe_op op_shlW pe_int pe_int)) (pss_cons (ps_set (i := 1) sc_law_huge_values.nd rfl (Or.inl rfl) (pe_make T.M_Table (ok_Table_init T) (hr.mono (by decide)) rfl T.m_Table T.b_Table_init .nil pass0 (pa_cons (pe_lst (pa_cons pe_int (pa_cons (pv 0) pa_nil))) pa_nil))) (pss_cons (ps_if (PW.pt (pw_or (pt_cmpR (r := rNeD K) (op_neD hr.units) (pe_meth (pv 1) T.cl_Table T.me_Table_step (ok_Table_step T) hr T.b_Table_step .nil pass0 (pa_cons (pe_tup (pa_cons pe_int (pa_cons (pe_op op_sub (pv 0) pe_int) pa_nil))) (pa_cons (pe_tup (pa_cons (pv 0) (pa_cons pe_int pa_nil))) (pa_cons pe_str pa_nil)))) (pe_tup (pa_cons (pe_op op_mod (pe_op op_add pe_int (pv 0)) pe_int) (pa_cons pe_int pa_nil))) (nomark _)) (pw_or1 (pt_cmpR op_ne (pe_meth0 (pv 1) T.cl_Table T.me_Table_count (ok_Table_count T) (hr.mono (by decide)) T.b_Table_count .nil pass0) (pe_op op_mulI pe_int (pv 0)) (nomark _))))) (pss_one (ps_ret pe_bl)) pss_nil) (pss_cons (ps_set (i := 2) sc_law_huge_values.nd rfl (Or.inl rfl) (pe_lst pa_nil)) (pss_cons (ps_for PassesOwn.never rfl (pi_list (pe_lst (pa_cons (pe_tup (pa_cons pe_int (pa_cons (pv 0) pa_nil))) (pa_cons (pe_tup (pa_cons (pv 0) (pa_cons pe_int pa_nil))) (pa_cons (pe_tup (pa_cons pe_int (pa_cons (pe_un un_neg (pv 0)) pa_nil))) pa_nil))))) (pg_name (i := 3) sc_law_huge_values.nd rfl (Or.inl rfl)) (pss_one (ps_try_as1 (i := 4) rfl rfl sc_law_huge_values.nd rfl rfl ⟨rfl, by decide, Or.inl T.m_InvalidSeat⟩ (fun W pn xe tk _ => pss_one (ps_expr (by exact (pe_methP (pv 1) T.cl_Table T.me_Table_moves (okX_Table_moves T) (hr.mono (by decide)) T.b_Table_moves (fun σ => passAt tk σ) (pa_cons (pv 3) (pa_cons (pe_tup (pa_cons pe_int (pa_cons pe_int pa_nil))) pa_nil)))))) (fun a oe cls d pn hz hf => (pss_one (ps_expr (by exact (show PE _ _ (tBM K "list" rAppend _ _) from (pe_bm PySem.F.plainAttrs_list PySem.F.slot_list_append PySem.F.type_list_append mt_append (pv 2) (pa_cons (pe_cmpR (r := rEqD K) (op_eqD hr.units) (pe_xf T.xf_InvalidSeat T.n_InvalidSeat_seat hz hf (pv 4)) (pv 3) (nomark _)) pa_nil)))))))))) (pss_cons (ps_try_as1 (i := 4) rfl rfl sc_law_huge_values.nd rfl rfl ⟨rfl, by decide, Or.inl T.m_InvalidTable⟩ (fun W pn xe tk _ => pss_one (ps_expr (by exact (pe_makeP T.M_Table (okX_Table_init T) (hr.mono (by decide)) rfl T.m_Table T.b_Table_init (fun σ => passAt tk σ) (pa_cons (pe_lst (pa_cons (pv 0) (pa_cons (pe_un un_neg (pv 0)) pa_nil))) pa_nil))))) (fun a oe cls d pn hz hf => (pss_one (ps_expr (by exact (show PE _ _ (tBM K "list" rAppend _ _) from (pe_bm PySem.F.plainAttrs_list PySem.F.slot_list_append PySem.F.type_list_append mt_append (pv 2) (pa_cons (pe_cmpR (r := rEqD K) (op_eqD hr.units) (pe_xf T.xf_InvalidTable T.n_InvalidTable_rings hz hf (pv 4)) (pe_lst (pa_cons (pv 0) (pa_cons (pe_un un_neg (pv 0)) pa_nil))) (nomark _)) pa_nil)))))))) (pss_cons (ps_try_as1 (i := 4) rfl rfl sc_law_huge_values.nd rfl rfl ⟨rfl, by decide, Or.inl T.m_InvalidDirection⟩ (fun W pn xe tk _ => pss_one (ps_expr (by exact (pe_methP (pv 1) T.cl_Table T.me_Table_step (okX_Table_step T) (hr.mono (by decide)) T.b_Table_step (fun σ => passAt tk σ) (pa_cons (pe_tup (pa_cons pe_int (pa_cons pe_int pa_nil))) (pa_cons (pe_tup (pa_cons (pv 0) (pa_cons (pv 0) pa_nil))) (pa_cons (pv 0) pa_nil))))))) (fun a oe cls d pn hz hf => (pss_one (ps_expr (by exact (show PE _ _ (tBM K "list" rAppend _ _) from (pe_bm PySem.F.plainAttrs_list PySem.F.slot_list_append PySem.F.type_list_append mt_append (pv 2) (pa_cons (pe_cmpR (r := rEqD K) (op_eqD hr.units) (pe_xf T.xf_InvalidDirection T.n_InvalidDirection_direction hz hf (pv 4)) (pv 0) (nomark _)) pa_nil)))))))) (pss_one (ps_ret (pe_cmpR (r := rEqD K) (op_eqD hr.units) (pv 2) (pe_op op_rep (pe_lst (pa_cons pe_bl pa_nil)) pe_int) (nomark _))))))))))), ?_⟩
    refine ⟨_, _, rfl, rfl, ⟨by decide, by decide +kernel⟩, ?_⟩
    have g4 : (4 : Int) ≤ 1 * 2 ^ Int.toNat 20000 := by decide +kernel
    dsimp only [gName]
    show tSeq _ _ _ [some (V.int (1 * 2 ^ Int.toNat 20000)), _, _, _, _] _
    generalize (1 * 2 ^ Int.toNat 20000 : Int) = hg at g4 ⊢
    refine ⟨_, rfl, slen rfl, ?_⟩
    (intro tl ntl; generalize hGtl : upd _ tl _ = H1; have eH1 := exG hGtl ntl; have htl := atG hGtl; clear hGtl)
    have ok : SzOk [3, hg] := ⟨by simp, by show 2 ≤ 4; decide, fun n hn => by
      simp only [List.mem_cons, List.not_mem_nil, or_false] at hn
      rcases hn with rfl | rfl <;> omega⟩
    refine mk_tab (b := false) (ns := [3, hg]) (show SqH H1 (false, tl) _ from htl) ok fun bd H2 e2 nbd tab => ?_
    obtain ⟨dx, tt, g1, g2⟩ := id tab
    dsimp only [gName]
    show tSeq _ _ _ [_, _, _, _, _] _
    refine ⟨_, rfl, bd, dx, _, rfl, g1, rfl, _, rfl, _, _, rfl, rfl, slen rfl, ?_⟩
    (intro s1 ns1; generalize hGs1 : upd _ s1 _ = H3; have eH3 := exG hGs1 ns1; have hs1 := atG hGs1; clear hGs1)
    refine ⟨_, rfl, slen rfl, ?_⟩
    (intro s2 ns2; generalize hGs2 : upd _ s2 _ = H4; have eH4 := exG hGs2 ns2; have hs2 := atG hGs2; clear hGs2)
    have e24 := ext eH3 eH4
    refine ⟨bd, s1, s2, [3, hg], [1, hg - 1], [hg, 1], false, rfl, tab.mono e24, ok, eH4 _ _ hs1, hs2, ⟨⟨by decide, by omega⟩, ⟨by omega, by omega⟩, trivial⟩, rfl, fun H5 q e5 nq hq => ?_⟩
    have sh : shiftL [3, hg] [1, hg - 1] [hg, 1] (if false = true then -1 else 1) = [(1 + hg) % 3, 0] := by
      show [(1 + 1 * hg) % 3, (hg - 1 + 1 * 1) % hg] = _
      rw [Int.one_mul, show hg - 1 + 1 * 1 = hg by omega, Int.emod_self]
    rw [sh] at hq
    refine ⟨_, rfl, _, _, rfl, rfl, _, _, rfl, rfl, (by show (0 : Int) < 3; decide), slen rfl, ?_⟩
    (intro r1 nr1; generalize hGr1 : upd _ r1 _ = H6; have eH6 := exG hGr1 nr1; have hr1 := atG hGr1; clear hGr1)
    have da : Dp K H6 (.ref q) (iT [(1 + hg) % 3, 0]) := dp_ints (eH6 _ _ hq)
    have db : Dp K H6 (.ref r1) (iT [(1 + hg) % 3, 0]) := dp_ints hr1
    have shd : Sh 60 (iT [(1 + hg) % 3, 0]) := (sh_ints (n := 3) _).up (by decide)
    refine ⟨_, _, da, db, shd.ok, shd.ok, _, rfl, ?_⟩
    rw [eqv_same shd]
    have e26 := ext e24 (ext e5 eH6)
    refine itf rfl ⟨_, rfl, bd, dx, _, rfl, e26 _ _ g1, rfl, bd, [3, hg], rfl, tab.mono e26, fun i hi => ?_, _, rfl, _, _, rfl, rfl, mul_ok (.inl (by decide)), rfl, _, rfl, ?_⟩
    · have i2 : i = 0 ∨ i = 1 := by
        have : i < 2 := hi
        omega
      rcases i2 with rfl | rfl
      · exact ⟨by show (0 : Int) ≤ 1; decide, by show (1 : Int) ≤ 10 ^ 9; decide⟩
      · exact ⟨by show (0 : Int) ≤ 1 * 3; decide, by show (1 * 3 : Int) ≤ 10 ^ 9; decide⟩
    refine itf ?_ ?_
    · show (!decide (V.int (1 * 3 * hg) = V.int (3 * hg))) = false
      rw [decide_eq_true (by rw [Int.one_mul])]
      rfl
    have tab6 := tab.mono e26
    have E6 : Ex H H6 := ext eH1 (ext e2 e26)
    clear da db shd hr1 hq sh hs1 hs2 e24 e5 eH6 eH3 eH4 e26 tab g1 g2 nr1 ns1 ns2 nq
    dsimp only [tNext]
    show tSeq _ _ _ [_, _, _, _, _] _
    refine ⟨slen rfl, ?_⟩
    (intro st nst; generalize hGst : upd _ st _ = K1; have eK1 := exG hGst nst; have hst := atG hGst; clear hGst)
    have tab1 := tab6.mono eK1
    dsimp only [gName]
    show tSeq _ _ _ [_, _, _, _, _] _
    refine ⟨_, rfl, slen rfl, ?_⟩
    (intro t1 nt1; generalize hGt1 : upd _ t1 _ = K2; have eK2 := exG hGt1 nt1; have ht1 := atG hGt1; clear hGt1)
    refine ⟨_, rfl, slen rfl, ?_⟩
    (intro t2 nt2; generalize hGt2 : upd _ t2 _ = K3; have eK3 := exG hGt2 nt2; have ht2 := atG hGt2; clear hGt2)
    refine ⟨_, rfl, _, rfl, slen rfl, ?_⟩
    (intro t3 nt3; generalize hGt3 : upd _ t3 _ = K4; have eK4 := exG hGt3 nt3; have ht3 := atG hGt3; clear hGt3)
    refine ⟨slen rfl, ?_⟩
    (intro bl nbl; generalize hGbl : upd _ bl _ = K5; have eK5 := exG hGbl nbl; have hbl := atG hGbl; clear hGbl)
    have e25 := ext eK3 (ext eK4 eK5)
    have e15 := ext eK2 e25
    have nbl : bl ≠ st := (ne_of_none ((ext eK2 (ext eK3 eK4)) _ _ hst) nbl).symm
    have tab5 := tab1.mono e15
    have E5 : Ex H K5 := ext E6 (ext eK1 e15)
    have nst0 : H st = none := Evl.fresh_back E6 nst
    have hst5 := e15 _ _ hst
    have ht1 := e25 _ _ ht1
    have ht2 := (ext eK4 eK5) _ _ ht2
    have ht3 := eK5 _ _ ht3
    refine ⟨bl, rfl, ⟨_, SqL.of hbl⟩, ?_⟩
    refine for_it (tb := fun D σ H1 => tDrop (tMethP T.C_Table "moves" (spX_Table_moves K T.C_Table T.C_InvalidSeat T.C_InvalidCall) (WE (wAs1 K (.ref T.C_InvalidSeat) 4 (fun a cls d => tDrop (tBM K "list" rAppend (tVar 2) (tCons (tOp (rEqD K) (tXf a cls d T.C_InvalidSeat "seat" (tVar 4)) (tVar 3)) tNil))) D)) (tVar 1) (tCons (tVar 3) (tCons (tTup (tCons (tC (.int 0)) (tCons (tC (.int 0)) tNil))) tNil))) D σ H1) (walk_list (xs := [V.ref t1, .ref t2, .ref t3])) (fun i σ Hi => ∃ y3 y4 : Option V, σ = [some (.int hg), some (.ref bd), some (.ref st), y3, y4] ∧ Hi st = some (.lst (List.replicate i (V.bl true))) ∧ XB st K5 Hi) ⟨_, _, rfl, hst5, XB.refl⟩ (fun i σ Hi _ p => ?_) ?_ ?_
    · obtain ⟨_, _, _, _, x⟩ := p
      exact SqL.of (x _ _ nbl hbl)
    · rintro i x σ Hi Hj hi ⟨y3, y4, rfl, hsti, xb⟩ ⟨rfl, hx⟩
      obtain ⟨ti, a, b, hti, rfl, no⟩ : ∃ (ti : Addr) (a b : Int), Hj ti = some (.tup [.int a, .int b]) ∧ x = .ref ti ∧ isSeatO [3, hg] (some [some a, some b]) = false := by
        have i3 : i = 0 ∨ i = 1 ∨ i = 2 := by
          have : i < 3 := hi
          omega
        have tp : ∀ {t : Addr} {xs : List V}, K5 t = some (.tup xs) → Hj t = some (.tup xs) := fun h => xb _ _ (ne_of h hst5 (fun z => nomatch z)) h
        have sf : ∀ a b : Int, (a < 0 ∨ 3 ≤ a ∨ b < 0 ∨ hg ≤ b) → isSeatO [3, hg] (some [some a, some b]) = false := fun a b h => by
          show (true && ((decide (0 ≤ a) && decide (a ≤ 3 - 1)) && ((decide (0 ≤ b) && decide (b ≤ hg - 1)) && true))) = false
          rcases h with h | h | h | h
          · rw [decide_eq_false (p := 0 ≤ a) (by omega)]; rfl
          · rw [decide_eq_false (p := a ≤ 3 - 1) (by omega), Bool.and_false]; rfl
          · rw [decide_eq_false (p := 0 ≤ b) (by omega), Bool.false_and, Bool.false_and, Bool.and_false]; rfl
          · rw [decide_eq_false (p := b ≤ hg - 1) (by omega), Bool.and_false, Bool.false_and, Bool.and_false]; rfl
        rcases i3 with rfl | rfl | rfl
        · exact ⟨t1, _, _, tp ht1, (Option.some.inj hx).symm, sf _ _ (by omega)⟩
        · exact ⟨t2, _, _, tp ht2, (Option.some.inj hx).symm, sf _ _ (by omega)⟩
        · exact ⟨t3, _, _, tp ht3, (Option.some.inj hx).symm, sf _ _ (by omega)⟩
      dsimp only [gName]
      have tabx : ∀ {Hx : Hp}, XB st K5 Hx → TabAt T.C_Table Hx bd [3, hg] := fun x => by
        obtain ⟨dx, tt, g1, g2⟩ := tab5
        exact ⟨dx, tt, x _ _ (ne_of g1 hst5 (fun z => nomatch z)) g1, x _ _ (ne_of g2 hst5 (fun z => nomatch z)) g2⟩
      have tabi := tabx xb
      obtain ⟨dx, tt, g1, g2⟩ := id tabi
      refine ⟨_, rfl, bd, dx, _, rfl, g1, rfl, _, rfl, slen rfl, ?_⟩
      (intro z0 nz0; generalize hGz0 : upd _ z0 _ = Hk; have eHk := exG hGz0 nz0; have hz0 := atG hGz0; clear hGz0)
      have htk := eHk _ _ hti
      refine ⟨bd, .ref ti, .ref z0, [3, hg], some [some a, some b], some [some 0, some 0], rfl, tabi.mono eHk, ok, TupA.ints (ps := [a, b]) htk (by show 2 ≤ 1000; decide), fun G e => TupA.ints (ps := [0, 0]) (e _ _ hz0) (by decide), fun _ dd Hm em hdd => ?_, (fun z => by rw [no] at z; cases z), fun z => by rw [no] at z; cases z⟩
      refine ⟨T.em_InvalidSeat, fun ea na => ?_⟩
      have hstm := em _ _ (eHk _ _ hsti)
      have da : Dp K Hm (.ref ti) (iT [a, b]) := dp_ints (em _ _ htk)
      have shd : Sh 60 (iT [a, b]) := (sh_ints (n := 3) _).up (by decide)
      refine ⟨_, rfl, .inl ⟨rfl, _, SqL.of hstm⟩, _, rfl, rfl, rfl, dd, _, _, rfl, hdd, rfl, _, rfl, iT [a, b], iT [a, b], da, da, shd.ok, shd.ok, ?_⟩
      rw [eqv_refl _ shd.1]
      refine ⟨st, _, _, rfl, rfl, hstm, by rw [List.length_replicate]; exact Nat.lt_of_lt_of_le hi (by show 3 ≤ sizeLine; decide), ?_⟩
      refine ⟨_, _, rfl, ?_, fun c o nc hc => ?_⟩
      · rw [upd_same, ← List.replicate_succ']
      · rw [upd_ne nc]
        exact em _ _ (eHk _ _ (xb _ _ nc hc))
    · rintro σ Hi ⟨y3, y4, rfl, hsti, xb⟩
      have tabi : TabAt T.C_Table Hi bd [3, hg] := by
        obtain ⟨dx, tt, g1, g2⟩ := tab5
        exact ⟨dx, tt, xb _ _ (ne_of g1 hst5 (fun z => nomatch z)) g1, xb _ _ (ne_of g2 hst5 (fun z => nomatch z)) g2⟩
      clear hst5 tab5 ht1 ht2 ht3 e15 e25 hbl nbl tab1 tab6 hst eK1 eK2 eK3 eK4 eK5
      refine ⟨_, rfl, _, rfl, _, rfl, slen rfl, ?_⟩
      (intro lq nlq; generalize hGlq : upd _ lq _ = H7; have eH7 := exG hGlq nlq; have hlq := atG hGlq; clear hGlq)
      refine fun x dx nx ndx ne => ?_
      have eX : Ex H7 (upd (upd H7 dx (.own x)) x (.ins T.C_Table dx [])) := fun c o q => by
        rw [upd_ne (ne_of_none q nx), upd_ne (ne_of_none q ndx)]
        exact q
      have bad : rgBad (some [.int hg, .int (-hg)]) = true := by
        show (!(_ && (decide (1 ≤ hg) && (decide (1 ≤ -hg) && true)))) = true
        rw [decide_eq_false (p := 1 ≤ -hg) (by omega), Bool.false_and, Bool.and_false, Bool.and_false]
        rfl
      refine ⟨x, dx, .ref lq, fun _ => True, some [.int hg, .int (-hg)], rfl, upd_same, ⟨(false, lq), _, rfl, eX _ _ hlq, .cons (.int hg) (.cons (.int (-hg)) .nil)⟩, (fun ds z => by rw [← Option.some.inj z]; show 2 ≤ 1000; decide), bad, fun dd Hm em hdd => ?_⟩
      refine ⟨T.em_InvalidTable, fun ea na => ?_⟩
      have e7m := ext eX em
      have xbm : XB st K5 Hm := xb.trans ((XB.of eH7).trans (XB.of e7m))
      have hstm := e7m _ _ (eH7 _ _ hsti)
      have hlqm := e7m _ _ hlq
      refine ⟨_, rfl, .inl ⟨rfl, _, SqL.of hstm⟩, _, rfl, rfl, rfl, dd, _, _, rfl, hdd, rfl, _, rfl, _, rfl, _, rfl, slen rfl, ?_⟩
      (intro l2 nl2; generalize hGl2 : upd _ l2 _ = H8; have eH8 := exG hGl2 nl2; have hl2 := atG hGl2; clear hGl2)
      have da : Dp K H8 (.ref lq) (.list [.int hg, .int (-hg)]) := .lst (SqL.of (eH8 _ _ hlqm)) (.cons (.int _) (.cons (.int _) .nil))
      have db : Dp K H8 (.ref l2) (.list [.int hg, .int (-hg)]) := .lst (SqL.of hl2) (.cons (.int _) (.cons (.int _) .nil))
      have shd : Sh 60 (.list [.int hg, .int (-hg)]) := (sh_list (n := 3) fun d hd => by
        simp only [List.mem_cons, List.not_mem_nil, or_false] at hd
        rcases hd with rfl | rfl <;> exact sh_int _).up (by decide)
      refine ⟨_, _, da, db, shd.ok, shd.ok, ?_⟩
      rw [eqv_refl _ shd.1]
      have hst8 := eH8 _ _ hstm
      refine ⟨st, _, _, rfl, rfl, hst8, by show 3 < sizeLine; decide, ?_⟩
      have tab9 : TabAt T.C_Table (upd H8 st (.lst (List.replicate 3 (V.bl true) ++ [.bl true]))) bd [3, hg] := by
        obtain ⟨dx, tt, g1, g2⟩ := tabi.mono (ext eH7 (ext e7m eH8))
        exact ⟨dx, tt, by rw [upd_ne (ne_of g1 hst8 (fun z => nomatch z))]; exact g1, by rw [upd_ne (ne_of g2 hst8 (fun z => nomatch z))]; exact g2⟩
      have hst9 : upd H8 st (.lst (List.replicate 3 (V.bl true) ++ [.bl true])) st = some (.lst [.bl true, .bl true, .bl true, .bl true]) := upd_same
      have xb9 : XB st K5 (upd H8 st (.lst (List.replicate 3 (V.bl true) ++ [.bl true]))) := fun c o nc hc => by
        rw [upd_ne nc]
        exact eH8 _ _ (xbm _ _ nc hc)
      dsimp only [List.length_cons, List.length_nil]
      show tSeq _ _ _ [_, _, _, _, _] (upd H8 st (.lst (List.replicate 3 (V.bl true) ++ [.bl true])))
      generalize upd H8 st (.lst (List.replicate 3 (V.bl true) ++ [.bl true])) = G1 at tab9 hst9 xb9
      clear da db shd hst8 hl2 hlqm hstm hdd e7m em eX bad eH7 eH8 hsti tabi xbm xb hlq
      obtain ⟨dx1, tt, g1, g2⟩ := id tab9
      refine ⟨_, rfl, bd, dx1, _, rfl, g1, rfl, slen rfl, ?_⟩
      (intro s1 ns1; generalize hGs1 : upd _ s1 _ = G2; have eG2 := exG hGs1 ns1; have hs1 := atG hGs1; clear hGs1)
      refine ⟨_, rfl, _, rfl, slen rfl, ?_⟩
      (intro s2 ns2; generalize hGs2 : upd _ s2 _ = G3; have eG3 := exG hGs2 ns2; have hs2 := atG hGs2; clear hGs2)
      have e13 := ext eG2 eG3
      have tab3 := tab9.mono e13
      have sk : SeatOk [3, hg] [0, 0] := ⟨⟨by decide, by decide⟩, ⟨by decide, by omega⟩, trivial⟩
      refine ⟨_, rfl, bd, .ref s1, .ref s2, .int hg, [3, hg], some ([0, 0].map some), some ([hg, hg].map some), none, rfl, (fun G e => (Dq.int (B := fun _ => True) hg).strA), tab3, ok, TupA.ints (ps := [0, 0]) (eG3 _ _ hs1) (by decide), fun G e => TupA.ints (ps := [hg, hg]) (e _ _ hs2) (by show 2 ≤ 1000; decide), (fun z => by rw [isSeat_ok sk] at z; cases z), (fun _ z => by rw [isCall_ok (ns := [3, hg]) (cs := [hg, hg]) rfl] at z; cases z), fun _ _ => ⟨s1, s2, [0, 0], [hg, hg], rfl, rfl, eG3 _ _ hs1, hs2, sk, rfl, fun _ dd Hm em hdd => ?_, fun z => by cases z⟩⟩
      refine ⟨T.em_InvalidDirection, fun ea na => ?_⟩
      have hstm := em _ _ (e13 _ _ hst9)
      have da : Dp K Hm (.int hg) (.int hg) := .int hg
      have shd : Sh 60 (.int hg) := sh_int _
      refine ⟨_, rfl, .inl ⟨rfl, _, SqL.of hstm⟩, _, rfl, rfl, rfl, dd, _, _, rfl, hdd, rfl, _, rfl, _, _, da, da, shd.ok, shd.ok, ?_⟩
      rw [eqv_refl _ shd.1]
      refine ⟨st, _, _, rfl, rfl, hstm, by show 4 < sizeLine; decide, ?_⟩
      have hstf : upd Hm st (.lst ([.bl true, .bl true, .bl true, .bl true] ++ [.bl true])) st = some (.lst [.bl true, .bl true, .bl true, .bl true, .bl true]) := upd_same
      have xbf : XB st K5 (upd Hm st (.lst ([.bl true, .bl true, .bl true, .bl true] ++ [.bl true]))) := fun c o nc hc => by
        rw [upd_ne nc]
        exact em _ _ (e13 _ _ (xb9 _ _ nc hc))
      dsimp only
      show tRet _ _ [_, _, _, _, _] (upd Hm st (.lst ([.bl true, .bl true, .bl true, .bl true] ++ [.bl true])))
      generalize upd Hm st (.lst ([.bl true, .bl true, .bl true, .bl true] ++ [.bl true])) = G4 at hstf xbf
      refine ⟨_, rfl, slen rfl, ?_⟩
      (intro o1 no1; generalize hGo1 : upd _ o1 _ = G5; have eG5 := exG hGo1 no1; have ho1 := atG hGo1; clear hGo1)
      refine ⟨o1, 5, [.bl true], rfl, rfl, ho1, by decide, by decide, by show 1 * 5 ≤ sizeLine; decide, ?_⟩
      (intro o5 no5; generalize hGo5 : upd _ o5 _ = G6; have eG6 := exG hGo5 no5; have ho5 := atG hGo5; clear hGo5)
      have bs : DpAll K G6 [V.bl true, .bl true, .bl true, .bl true, .bl true] [.bool true, .bool true, .bool true, .bool true, .bool true] := .cons (.bl _) (.cons (.bl _) (.cons (.bl _) (.cons (.bl _) (.cons (.bl _) .nil))))
      have shb : Sh 60 (.list [.bool true, .bool true, .bool true, .bool true, .bool true]) := ⟨by decide +kernel, by simp [PyData.depth, PyData.depthAll]⟩
      refine ⟨_, _, .lst (SqL.of ((ext eG5 eG6) _ _ hstf)) bs, .lst (SqL.of ho5) bs, shb.ok, shb.ok, ?_⟩
      have kq := k G6 fun c o hc => (ext eG5 eG6) _ _ (xbf _ _ (ne_of_none hc nst0) (E5 _ _ hc))
      rw [← eqv_refl _ shb.1] at kq
      exact kq
end

section
variable {P : Program} {w : World} {K : PySem.W.Frag} {mg : Str → Option Value} {base : Heap}
/-- a cut list of ints is one -/
theorem cut_ints (ns : List Int) (lo hi : Option Int) : ∃ ms : List Int, cutV (ns.map V.int ++ [V.int 0]) lo hi = ms.map V.int := by
  refine ⟨((ns ++ [0]).drop (HT.sIx (ns.map V.int ++ [V.int 0]).length 0 lo)).take (HT.sIx (ns.map V.int ++ [V.int 0]).length (ns.map V.int ++ [V.int 0]).length hi - HT.sIx (ns.map V.int ++ [V.int 0]).length 0 lo), ?_⟩
  unfold cutV
  rw [List.map_take, List.map_drop, List.map_append]
  rfl
end
theorem cut_of (ns : List Int) (lo hi : Option Int) : ∃ ms : List Int, cutV (ns.map V.int) lo hi = ms.map V.int ∧ ms.length ≤ ns.length := by
  refine ⟨(ns.drop (HT.sIx (ns.map V.int).length 0 lo)).take (HT.sIx (ns.map V.int).length (ns.map V.int).length hi - HT.sIx (ns.map V.int).length 0 lo), ?_, ?_⟩
  · unfold cutV
    rw [List.map_take, List.map_drop]
  · rw [List.length_take, List.length_drop]
    omega

section
variable {P : Program} {w : World} {K : PySem.W.Frag} {mg : Str → Option Value} {base : Heap}
def sp_law (K : PySem.W.Frag) (PT : Addr) : Sp := fun vs H Q _ => ∃ (a : Addr) (ns : List Int), vs = [.ref a] ∧ SqL K H a (ns.map V.int) ∧ ns.length ≤ 63 ∧ H PT = some (.tbl #[]) ∧ ∀ H2, Q (.bl true) H2
theorem ok_law (T : TX K mg) (L : TL T base) : CG.FnOkG P w K mg base 10 T.f_law T.fd_law ["_law_script"] (sp_law K L.p_law_check) := by
  refine CG.okG T.F_law sc_law (fun vs H Q E h => ?_) (fun cdv A outer s H vs Q E gd hr h => ?_)
  · obtain ⟨a, ns, rfl, _⟩ := h
    rfl
  · obtain ⟨a, ns, rfl, hS, hlen, htb, k⟩ := h
    refine ⟨_, (pss_cons (ps_if (pt_not (pt_val (pe_call0 (ok_law_huge_values T) (hr.mono (by decide)) rfl T.m_law_huge_values T.F_law_huge_values.kp T.b_law_huge_values .nil pass0))) (pss_one (ps_ret pe_bl)) pss_nil) (pss_cons (ps_for PassesOwn.never rfl (pi_list (pe_slice sl_list (pe_op (r := rCatR K) op_catR (pv 0) (pe_lst (pa_cons pe_int pa_nil))) po_none (po_some pe_int))) (pg_name (i := 1) sc_law.nd rfl (Or.inl rfl)) (pss_one (ps_if (pt_not (pt_val (CG.pe_callG (ok_law_check T L) gd hr rfl T.m_law_check T.F_law_check.kp T.b_law_check .nil pass0 (pa_cons (pe_call (ok_law_source T) (hr.mono (by decide)) rfl T.m_law_source T.F_law_source.kp T.b_law_source .nil pass0 (pa_cons (pv 1) pa_nil)) pa_nil)))) (pss_one (ps_ret pe_bl)) pss_nil))) (pss_one (ps_ret pe_bl)))), ?_⟩
    refine ⟨rfl, fun H1 eh => ?_⟩
    refine ⟨_, rfl, itf rfl ?_⟩
    dsimp only [tNext]
    have hS := Evl.ex_l eh hS
    have htb := eh _ _ htb
    clear eh
    generalize H1 = H at *
    refine ⟨_, rfl, slen rfl, fun b hb => ?_⟩
    have e1 := exn (o := .lst [.int 0]) hb
    have hS1 := Evl.ex_l e1 hS
    refine ⟨a, b, _, _, rfl, rfl, hS1, SqL.of upd_same, ?_, fun c hc => ?_⟩
    · rw [List.length_map]
      exact Nat.le_trans (Nat.add_le_add_right hlen 1) (by decide)
    rw [show ns.map V.int ++ [V.int 0] = (ns ++ [0]).map V.int from by rw [List.map_append]; rfl]
    obtain ⟨us, em, lm⟩ := cut_of (ns ++ [0]) none (some 5)
    have e2 := exn (o := .lst ((ns ++ [0]).map V.int)) hc
    refine ⟨5, rfl, c, _, rfl, SqL.of upd_same, fun d hd => ?_⟩
    rw [em]
    have e3 := exn (o := .lst (us.map V.int)) hd
    have htd := e3 _ _ (e2 _ _ (e1 _ _ htb))
    refine ⟨d, rfl, ⟨_, SqL.of upd_same⟩, ?_⟩
    refine for_it (walk_list (xs := us.map V.int)) (fun i σ H => (∃ y, σ = [some (.ref a), y]) ∧ H d = some (.lst (us.map V.int)) ∧ LamX.Tabs [(L.p_law_check, lamQ)] H) ⟨⟨_, rfl⟩, upd_same, fun p hp => by rw [List.mem_singleton.mp hp]; exact LamX.TabS.nil htd⟩ (fun i σ H _ p => SqL.of p.2.1) ?_ (fun σ H p => k _)
    rintro i x σ _ H1 hi ⟨⟨y, rfl⟩, hd1, tb1⟩ ⟨rfl, hx⟩
    obtain ⟨n, _, rfl⟩ := map_get hx
    refine ⟨_, rfl, n, rfl, fun H2 s e2 hs src => ?_⟩
    have nds : d ≠ s := ne_of_none hd1 hs
    refine ⟨s, rfl, src, tb1.ext e2, fun H3 xn src3 tb3 => ?_⟩
    refine ⟨_, rfl, itf rfl ?_⟩
    exact ⟨⟨_, rfl⟩, xn.lst nds (e2 _ _ hd1), tb3⟩
end

theorem all_mk {K : PySem.W.Frag} {h : Heap} {mg : Str → Option Value} (X : K.In h) (G : h.Ns mainGlobals mg)
    {f0 f1 f2 f3 f4 f5 f6 f7 f8 f9 f10 f11 f12 f13 f14 f15 f16 f17 f18 f19 f20 f21 f22 f23 f24 f25 f26 f27 f28 f29 f30 f31 f32 f33 f34 f35 C_InvalidTable C_InvalidSeat C_InvalidCall C_InvalidDirection C_Table C_SeatError C_InvalidWitness C_InvalidTargets : Addr}
    {od0 an0 od1 an1 od2 an2 od3 an3 od4 an4 od5 an5 od6 an6 od7 an7 od8 an8 od9 an9 od10 an10 od11 an11 od12 an12 od13 an13 od14 an14 od15 an15 od16 an16 od17 an17 od18 an18 od19 an19 od20 an20 od21 an21 od22 an22 od23 an23 od24 an24 od25 an25 od26 an26 od27 an27 od28 an28 od29 an29 od30 an30 od31 an31 od32 an32 od33 an33 od34 an34 od35 an35 : Option Addr} {sl0 sl1 sl2 sl3 sl4 sl5 sl6 sl7 sl8 sl9 sl10 sl11 sl12 sl13 sl14 sl15 sl16 sl17 sl18 sl19 sl20 sl21 sl22 sl23 sl24 sl25 sl26 sl27 sl28 sl29 sl30 sl31 sl32 sl33 sl34 sl35 : Array (Option Value)} {oc0 kV0 dc0 pm0 cd0 ct0 oc1 kV1 dc1 pm1 cd1 ct1 oc2 kV2 dc2 pm2 cd2 ct2 oc3 kV3 dc3 pm3 cd3 ct3 oc4 kV4 dc4 pm4 cd4 ct4 oc5 kV5 dc5 pm5 cd5 ct5 oc6 kV6 dc6 pm6 cd6 ct6 oc7 kV7 dc7 pm7 cd7 ct7 oc8 kV8 dc8 pm8 cd8 ct8 oc9 kV9 dc9 pm9 cd9 ct9 oc10 kV10 dc10 pm10 cd10 ct10 oc11 kV11 dc11 pm11 cd11 ct11 oc12 kV12 dc12 pm12 cd12 ct12 oc13 kV13 dc13 pm13 cd13 ct13 oc14 kV14 dc14 pm14 cd14 ct14 oc15 kV15 dc15 pm15 cd15 ct15 oc16 kV16 dc16 pm16 cd16 ct16 oc17 kV17 dc17 pm17 cd17 ct17 oc18 kV18 dc18 pm18 cd18 ct18 oc19 kV19 dc19 pm19 cd19 ct19 oc20 kV20 dc20 pm20 cd20 ct20 oc21 kV21 dc21 pm21 cd21 ct21 oc22 kV22 dc22 pm22 cd22 ct22 oc23 kV23 dc23 pm23 cd23 ct23 oc24 kV24 dc24 pm24 cd24 ct24 oc25 kV25 dc25 pm25 cd25 ct25 oc26 kV26 dc26 pm26 cd26 ct26 oc27 kV27 dc27 pm27 cd27 ct27 oc28 kV28 dc28 pm28 cd28 ct28 oc29 kV29 dc29 pm29 cd29 ct29 oc30 kV30 dc30 pm30 cd30 ct30 oc31 kV31 dc31 pm31 cd31 ct31 oc32 kV32 dc32 pm32 cd32 ct32 oc33 kV33 dc33 pm33 cd33 ct33 oc34 kV34 dc34 pm34 cd34 ct34 oc35 kV35 dc35 pm35 cd35 ct35 : Value}
    {nm_InvalidTable q_InvalidTable : Str} {N_InvalidTable B_InvalidTable : Addr} {bs_InvalidTable sub_InvalidTable : List Value} {sn_InvalidTable : List Str} {ab_InvalidTable : Bool} {col_InvalidTable : Option Bool} {dd_InvalidTable : Option Addr} {m0_InvalidTable m1_InvalidTable m2_InvalidTable m3_InvalidTable m5_InvalidTable : Option Value}
    {nm_InvalidSeat q_InvalidSeat : Str} {N_InvalidSeat B_InvalidSeat : Addr} {bs_InvalidSeat sub_InvalidSeat : List Value} {sn_InvalidSeat : List Str} {ab_InvalidSeat : Bool} {col_InvalidSeat : Option Bool} {dd_InvalidSeat : Option Addr} {m0_InvalidSeat m1_InvalidSeat m2_InvalidSeat m3_InvalidSeat m5_InvalidSeat : Option Value}
    {nm_InvalidCall q_InvalidCall : Str} {N_InvalidCall B_InvalidCall : Addr} {bs_InvalidCall sub_InvalidCall : List Value} {sn_InvalidCall : List Str} {ab_InvalidCall : Bool} {col_InvalidCall : Option Bool} {dd_InvalidCall : Option Addr} {m0_InvalidCall m1_InvalidCall m2_InvalidCall m3_InvalidCall m5_InvalidCall : Option Value}
    {nm_InvalidDirection q_InvalidDirection : Str} {N_InvalidDirection B_InvalidDirection : Addr} {bs_InvalidDirection sub_InvalidDirection : List Value} {sn_InvalidDirection : List Str} {ab_InvalidDirection : Bool} {col_InvalidDirection : Option Bool} {dd_InvalidDirection : Option Addr} {m0_InvalidDirection m1_InvalidDirection m2_InvalidDirection m3_InvalidDirection m5_InvalidDirection : Option Value}
    {t_MAX_RINGS : Tok}
    (aC_SeatError : PySem.W.nsIn K mainGlobals "SeatError" = some (some (.ref C_SeatError)))
    (ex_SeatError : PySem.W.subIn K (.ref C_SeatError) (.type "BaseException") = some true)
    (ty_SeatError : PySem.W.typeIn K (.ref C_SeatError) = some (.type "type"))
    (il_SeatError : PySem.W.isClsIn K C_SeatError = true)
    (aC_InvalidWitness : PySem.W.nsIn K mainGlobals "InvalidWitness" = some (some (.ref C_InvalidWitness)))
    (ex_InvalidWitness : PySem.W.subIn K (.ref C_InvalidWitness) (.type "BaseException") = some true)
    (ty_InvalidWitness : PySem.W.typeIn K (.ref C_InvalidWitness) = some (.type "type"))
    (il_InvalidWitness : PySem.W.isClsIn K C_InvalidWitness = true)
    (aC_InvalidTargets : PySem.W.nsIn K mainGlobals "InvalidTargets" = some (some (.ref C_InvalidTargets)))
    (ex_InvalidTargets : PySem.W.subIn K (.ref C_InvalidTargets) (.type "BaseException") = some true)
    (ty_InvalidTargets : PySem.W.typeIn K (.ref C_InvalidTargets) = some (.type "type"))
    (il_InvalidTargets : PySem.W.isClsIn K C_InvalidTargets = true)
    (aC_InvalidTable : PySem.W.nsIn K mainGlobals "InvalidTable" = some (some (.ref C_InvalidTable)))
    (aC_InvalidSeat : PySem.W.nsIn K mainGlobals "InvalidSeat" = some (some (.ref C_InvalidSeat)))
    (aC_InvalidCall : PySem.W.nsIn K mainGlobals "InvalidCall" = some (some (.ref C_InvalidCall)))
    (aC_InvalidDirection : PySem.W.nsIn K mainGlobals "InvalidDirection" = some (some (.ref C_InvalidDirection)))
    (aC_Table : PySem.W.nsIn K mainGlobals "Table" = some (some (.ref C_Table)))
    (a0 : PySem.W.findIn K (.ref C_InvalidTable) "__init__" = some (some (.ref f0)))
    (i0 : PySem.W.isFn K (.ref f0) = true)
    (l0 : K.lookup f0 = some ⟨oc0, od0, .func (PySem.W.fnOf "__init__" "InvalidTable.__init__" (defArgs s_InvalidTable_init) (defBody s_InvalidTable_init) (defScope s_InvalidTable_init) .none kV0 dc0 pm0 an0 cd0 ct0), sl0⟩)
    (c0 : PySem.W.codeIn K cd0 "InvalidTable.__init__" = true)
    (k0 : PySem.W.keepIn K (.ref f0) = true)
    (a1 : PySem.W.findIn K (.ref C_InvalidSeat) "__init__" = some (some (.ref f1)))
    (i1 : PySem.W.isFn K (.ref f1) = true)
    (l1 : K.lookup f1 = some ⟨oc1, od1, .func (PySem.W.fnOf "__init__" "InvalidSeat.__init__" (defArgs s_InvalidSeat_init) (defBody s_InvalidSeat_init) (defScope s_InvalidSeat_init) .none kV1 dc1 pm1 an1 cd1 ct1), sl1⟩)
    (c1 : PySem.W.codeIn K cd1 "InvalidSeat.__init__" = true)
    (k1 : PySem.W.keepIn K (.ref f1) = true)
    (a2 : PySem.W.findIn K (.ref C_InvalidCall) "__init__" = some (some (.ref f2)))
    (i2 : PySem.W.isFn K (.ref f2) = true)
    (l2 : K.lookup f2 = some ⟨oc2, od2, .func (PySem.W.fnOf "__init__" "InvalidCall.__init__" (defArgs s_InvalidCall_init) (defBody s_InvalidCall_init) (defScope s_InvalidCall_init) .none kV2 dc2 pm2 an2 cd2 ct2), sl2⟩)
    (c2 : PySem.W.codeIn K cd2 "InvalidCall.__init__" = true)
    (k2 : PySem.W.keepIn K (.ref f2) = true)
    (a3 : PySem.W.findIn K (.ref C_InvalidDirection) "__init__" = some (some (.ref f3)))
    (i3 : PySem.W.isFn K (.ref f3) = true)
    (l3 : K.lookup f3 = some ⟨oc3, od3, .func (PySem.W.fnOf "__init__" "InvalidDirection.__init__" (defArgs s_InvalidDirection_init) (defBody s_InvalidDirection_init) (defScope s_InvalidDirection_init) .none kV3 dc3 pm3 an3 cd3 ct3), sl3⟩)
    (c3 : PySem.W.codeIn K cd3 "InvalidDirection.__init__" = true)
    (k3 : PySem.W.keepIn K (.ref f3) = true)
    (a4 : PySem.W.nsIn K mainGlobals "is_integer" = some (some (.ref f4)))
    (l4 : K.lookup f4 = some ⟨oc4, od4, .func (PySem.W.fnOf "is_integer" "is_integer" (defArgs s_is_integer) (defBody s_is_integer) (defScope s_is_integer) .none kV4 dc4 pm4 an4 cd4 ct4), sl4⟩)
    (c4 : PySem.W.codeIn K cd4 "is_integer" = true)
    (k4 : PySem.W.keepIn K (.ref f4) = true)
    (a5 : PySem.W.nsIn K mainGlobals "is_at_least" = some (some (.ref f5)))
    (l5 : K.lookup f5 = some ⟨oc5, od5, .func (PySem.W.fnOf "is_at_least" "is_at_least" (defArgs s_is_at_least) (defBody s_is_at_least) (defScope s_is_at_least) .none kV5 dc5 pm5 an5 cd5 ct5), sl5⟩)
    (c5 : PySem.W.codeIn K cd5 "is_at_least" = true)
    (k5 : PySem.W.keepIn K (.ref f5) = true)
    (a6 : PySem.W.nsIn K mainGlobals "is_between" = some (some (.ref f6)))
    (l6 : K.lookup f6 = some ⟨oc6, od6, .func (PySem.W.fnOf "is_between" "is_between" (defArgs s_is_between) (defBody s_is_between) (defScope s_is_between) .none kV6 dc6 pm6 an6 cd6 ct6), sl6⟩)
    (c6 : PySem.W.codeIn K cd6 "is_between" = true)
    (k6 : PySem.W.keepIn K (.ref f6) = true)
    (a7 : PySem.W.nsIn K mainGlobals "greatest_common_divisor" = some (some (.ref f7)))
    (l7 : K.lookup f7 = some ⟨oc7, od7, .func (PySem.W.fnOf "greatest_common_divisor" "greatest_common_divisor" (defArgs s_greatest_common_divisor) (defBody s_greatest_common_divisor) (defScope s_greatest_common_divisor) .none kV7 dc7 pm7 an7 cd7 ct7), sl7⟩)
    (c7 : PySem.W.codeIn K cd7 "greatest_common_divisor" = true)
    (k7 : PySem.W.keepIn K (.ref f7) = true)
    (a8 : PySem.W.findIn K (.ref C_Table) "__init__" = some (some (.ref f8)))
    (i8 : PySem.W.isFn K (.ref f8) = true)
    (l8 : K.lookup f8 = some ⟨oc8, od8, .func (PySem.W.fnOf "__init__" "Table.__init__" (defArgs s_Table_init) (defBody s_Table_init) (defScope s_Table_init) .none kV8 dc8 pm8 an8 cd8 ct8), sl8⟩)
    (c8 : PySem.W.codeIn K cd8 "Table.__init__" = true)
    (k8 : PySem.W.keepIn K (.ref f8) = true)
    (a9 : PySem.W.findIn K (.ref C_Table) "sizes" = some (some (.ref f9)))
    (i9 : PySem.W.isFn K (.ref f9) = true)
    (l9 : K.lookup f9 = some ⟨oc9, od9, .func (PySem.W.fnOf "sizes" "Table.sizes" (defArgs s_Table_sizes) (defBody s_Table_sizes) (defScope s_Table_sizes) .none kV9 dc9 pm9 an9 cd9 ct9), sl9⟩)
    (c9 : PySem.W.codeIn K cd9 "Table.sizes" = true)
    (k9 : PySem.W.keepIn K (.ref f9) = true)
    (a10 : PySem.W.findIn K (.ref C_Table) "count" = some (some (.ref f10)))
    (i10 : PySem.W.isFn K (.ref f10) = true)
    (l10 : K.lookup f10 = some ⟨oc10, od10, .func (PySem.W.fnOf "count" "Table.count" (defArgs s_Table_count) (defBody s_Table_count) (defScope s_Table_count) .none kV10 dc10 pm10 an10 cd10 ct10), sl10⟩)
    (c10 : PySem.W.codeIn K cd10 "Table.count" = true)
    (k10 : PySem.W.keepIn K (.ref f10) = true)
    (a11 : PySem.W.findIn K (.ref C_Table) "is_seat" = some (some (.ref f11)))
    (i11 : PySem.W.isFn K (.ref f11) = true)
    (l11 : K.lookup f11 = some ⟨oc11, od11, .func (PySem.W.fnOf "is_seat" "Table.is_seat" (defArgs s_Table_is_seat) (defBody s_Table_is_seat) (defScope s_Table_is_seat) .none kV11 dc11 pm11 an11 cd11 ct11), sl11⟩)
    (c11 : PySem.W.codeIn K cd11 "Table.is_seat" = true)
    (k11 : PySem.W.keepIn K (.ref f11) = true)
    (a12 : PySem.W.findIn K (.ref C_Table) "is_call" = some (some (.ref f12)))
    (i12 : PySem.W.isFn K (.ref f12) = true)
    (l12 : K.lookup f12 = some ⟨oc12, od12, .func (PySem.W.fnOf "is_call" "Table.is_call" (defArgs s_Table_is_call) (defBody s_Table_is_call) (defScope s_Table_is_call) .none kV12 dc12 pm12 an12 cd12 ct12), sl12⟩)
    (c12 : PySem.W.codeIn K cd12 "Table.is_call" = true)
    (k12 : PySem.W.keepIn K (.ref f12) = true)
    (a13 : PySem.W.findIn K (.ref C_Table) "shifted" = some (some (.ref f13)))
    (i13 : PySem.W.isFn K (.ref f13) = true)
    (l13 : K.lookup f13 = some ⟨oc13, od13, .func (PySem.W.fnOf "shifted" "Table.shifted" (defArgs s_Table_shifted) (defBody s_Table_shifted) (defScope s_Table_shifted) .none kV13 dc13 pm13 an13 cd13 ct13), sl13⟩)
    (c13 : PySem.W.codeIn K cd13 "Table.shifted" = true)
    (k13 : PySem.W.keepIn K (.ref f13) = true)
    (a14 : PySem.W.findIn K (.ref C_Table) "moves" = some (some (.ref f14)))
    (i14 : PySem.W.isFn K (.ref f14) = true)
    (l14 : K.lookup f14 = some ⟨oc14, od14, .func (PySem.W.fnOf "moves" "Table.moves" (defArgs s_Table_moves) (defBody s_Table_moves) (defScope s_Table_moves) .none kV14 dc14 pm14 an14 cd14 ct14), sl14⟩)
    (c14 : PySem.W.codeIn K cd14 "Table.moves" = true)
    (k14 : PySem.W.keepIn K (.ref f14) = true)
    (a15 : PySem.W.findIn K (.ref C_Table) "step" = some (some (.ref f15)))
    (i15 : PySem.W.isFn K (.ref f15) = true)
    (l15 : K.lookup f15 = some ⟨oc15, od15, .func (PySem.W.fnOf "step" "Table.step" (defArgs s_Table_step) (defBody s_Table_step) (defScope s_Table_step) .none kV15 dc15 pm15 an15 cd15 ct15), sl15⟩)
    (c15 : PySem.W.codeIn K cd15 "Table.step" = true)
    (k15 : PySem.W.keepIn K (.ref f15) = true)
    (a16 : PySem.W.findIn K (.ref C_Table) "order" = some (some (.ref f16)))
    (i16 : PySem.W.isFn K (.ref f16) = true)
    (l16 : K.lookup f16 = some ⟨oc16, od16, .func (PySem.W.fnOf "order" "Table.order" (defArgs s_Table_order) (defBody s_Table_order) (defScope s_Table_order) .none kV16 dc16 pm16 an16 cd16 ct16), sl16⟩)
    (c16 : PySem.W.codeIn K cd16 "Table.order" = true)
    (k16 : PySem.W.keepIn K (.ref f16) = true)
    (a17 : PySem.W.findIn K (.ref C_Table) "halves" = some (some (.ref f17)))
    (i17 : PySem.W.isFn K (.ref f17) = true)
    (l17 : K.lookup f17 = some ⟨oc17, od17, .func (PySem.W.fnOf "halves" "Table.halves" (defArgs s_Table_halves) (defBody s_Table_halves) (defScope s_Table_halves) .none kV17 dc17 pm17 an17 cd17 ct17), sl17⟩)
    (c17 : PySem.W.codeIn K cd17 "Table.halves" = true)
    (k17 : PySem.W.keepIn K (.ref f17) = true)
    (a18 : PySem.W.nsIn K mainGlobals "half_places" = some (some (.ref f18)))
    (l18 : K.lookup f18 = some ⟨oc18, od18, .func (PySem.W.fnOf "half_places" "half_places" (defArgs s_half_places) (defBody s_half_places) (defScope s_half_places) .none kV18 dc18 pm18 an18 cd18 ct18), sl18⟩)
    (c18 : PySem.W.codeIn K cd18 "half_places" = true)
    (k18 : PySem.W.keepIn K (.ref f18) = true)
    (a19 : PySem.W.nsIn K mainGlobals "is_direction" = some (some (.ref f19)))
    (l19 : K.lookup f19 = some ⟨oc19, od19, .func (PySem.W.fnOf "is_direction" "is_direction" (defArgs s_is_direction) (defBody s_is_direction) (defScope s_is_direction) .none kV19 dc19 pm19 an19 cd19 ct19), sl19⟩)
    (c19 : PySem.W.codeIn K cd19 "is_direction" = true)
    (k19 : PySem.W.keepIn K (.ref f19) = true)
    (a20 : PySem.W.nsIn K mainGlobals "require_seat" = some (some (.ref f20)))
    (l20 : K.lookup f20 = some ⟨oc20, od20, .func (PySem.W.fnOf "require_seat" "require_seat" (defArgs s_require_seat) (defBody s_require_seat) (defScope s_require_seat) .none kV20 dc20 pm20 an20 cd20 ct20), sl20⟩)
    (c20 : PySem.W.codeIn K cd20 "require_seat" = true)
    (k20 : PySem.W.keepIn K (.ref f20) = true)
    (a21 : PySem.W.nsIn K mainGlobals "require_call" = some (some (.ref f21)))
    (l21 : K.lookup f21 = some ⟨oc21, od21, .func (PySem.W.fnOf "require_call" "require_call" (defArgs s_require_call) (defBody s_require_call) (defScope s_require_call) .none kV21 dc21 pm21 an21 cd21 ct21), sl21⟩)
    (c21 : PySem.W.codeIn K cd21 "require_call" = true)
    (k21 : PySem.W.keepIn K (.ref f21) = true)
    (a22 : PySem.W.nsIn K mainGlobals "_law_mixed" = some (some (.ref f22)))
    (l22 : K.lookup f22 = some ⟨oc22, od22, .func (PySem.W.fnOf "_law_mixed" "_law_mixed" (defArgs s_law_mixed) (defBody s_law_mixed) (defScope s_law_mixed) .none kV22 dc22 pm22 an22 cd22 ct22), sl22⟩)
    (c22 : PySem.W.codeIn K cd22 "_law_mixed" = true)
    (k22 : PySem.W.keepIn K (.ref f22) = true)
    (a23 : PySem.W.nsIn K mainGlobals "_law_source" = some (some (.ref f23)))
    (l23 : K.lookup f23 = some ⟨oc23, od23, .func (PySem.W.fnOf "_law_source" "_law_source" (defArgs s_law_source) (defBody s_law_source) (defScope s_law_source) .none kV23 dc23 pm23 an23 cd23 ct23), sl23⟩)
    (c23 : PySem.W.codeIn K cd23 "_law_source" = true)
    (k23 : PySem.W.keepIn K (.ref f23) = true)
    (a24 : PySem.W.nsIn K mainGlobals "_law_take" = some (some (.ref f24)))
    (l24 : K.lookup f24 = some ⟨oc24, od24, .func (PySem.W.fnOf "_law_take" "_law_take" (defArgs s_law_take) (defBody s_law_take) (defScope s_law_take) .none kV24 dc24 pm24 an24 cd24 ct24), sl24⟩)
    (c24 : PySem.W.codeIn K cd24 "_law_take" = true)
    (k24 : PySem.W.keepIn K (.ref f24) = true)
    (a25 : PySem.W.nsIn K mainGlobals "_law_big" = some (some (.ref f25)))
    (l25 : K.lookup f25 = some ⟨oc25, od25, .func (PySem.W.fnOf "_law_big" "_law_big" (defArgs s_law_big) (defBody s_law_big) (defScope s_law_big) .none kV25 dc25 pm25 an25 cd25 ct25), sl25⟩)
    (c25 : PySem.W.codeIn K cd25 "_law_big" = true)
    (k25 : PySem.W.keepIn K (.ref f25) = true)
    (a26 : PySem.W.nsIn K mainGlobals "_law_rings" = some (some (.ref f26)))
    (l26 : K.lookup f26 = some ⟨oc26, od26, .func (PySem.W.fnOf "_law_rings" "_law_rings" (defArgs s_law_rings) (defBody s_law_rings) (defScope s_law_rings) .none kV26 dc26 pm26 an26 cd26 ct26), sl26⟩)
    (c26 : PySem.W.codeIn K cd26 "_law_rings" = true)
    (k26 : PySem.W.keepIn K (.ref f26) = true)
    (a27 : PySem.W.nsIn K mainGlobals "_law_call" = some (some (.ref f27)))
    (l27 : K.lookup f27 = some ⟨oc27, od27, .func (PySem.W.fnOf "_law_call" "_law_call" (defArgs s_law_call) (defBody s_law_call) (defScope s_law_call) .none kV27 dc27 pm27 an27 cd27 ct27), sl27⟩)
    (c27 : PySem.W.codeIn K cd27 "_law_call" = true)
    (k27 : PySem.W.keepIn K (.ref f27) = true)
    (a28 : PySem.W.nsIn K mainGlobals "_law_odd_value" = some (some (.ref f28)))
    (l28 : K.lookup f28 = some ⟨oc28, od28, .func (PySem.W.fnOf "_law_odd_value" "_law_odd_value" (defArgs s_law_odd_value) (defBody s_law_odd_value) (defScope s_law_odd_value) .none kV28 dc28 pm28 an28 cd28 ct28), sl28⟩)
    (c28 : PySem.W.codeIn K cd28 "_law_odd_value" = true)
    (k28 : PySem.W.keepIn K (.ref f28) = true)
    (a29 : PySem.W.nsIn K mainGlobals "_law_raised" = some (some (.ref f29)))
    (l29 : K.lookup f29 = some ⟨oc29, od29, .func (PySem.W.fnOf "_law_raised" "_law_raised" (defArgs s_law_raised) (defBody s_law_raised) (defScope s_law_raised) .none kV29 dc29 pm29 an29 cd29 ct29), sl29⟩)
    (c29 : PySem.W.codeIn K cd29 "_law_raised" = true)
    (k29 : PySem.W.keepIn K (.ref f29) = true)
    (a30 : PySem.W.nsIn K mainGlobals "_law_bad_rings" = some (some (.ref f30)))
    (l30 : K.lookup f30 = some ⟨oc30, od30, .func (PySem.W.fnOf "_law_bad_rings" "_law_bad_rings" (defArgs s_law_bad_rings) (defBody s_law_bad_rings) (defScope s_law_bad_rings) .none kV30 dc30 pm30 an30 cd30 ct30), sl30⟩)
    (c30 : PySem.W.codeIn K cd30 "_law_bad_rings" = true)
    (k30 : PySem.W.keepIn K (.ref f30) = true)
    (a31 : PySem.W.nsIn K mainGlobals "_law_bad_seat" = some (some (.ref f31)))
    (l31 : K.lookup f31 = some ⟨oc31, od31, .func (PySem.W.fnOf "_law_bad_seat" "_law_bad_seat" (defArgs s_law_bad_seat) (defBody s_law_bad_seat) (defScope s_law_bad_seat) .none kV31 dc31 pm31 an31 cd31 ct31), sl31⟩)
    (c31 : PySem.W.codeIn K cd31 "_law_bad_seat" = true)
    (k31 : PySem.W.keepIn K (.ref f31) = true)
    (a32 : PySem.W.nsIn K mainGlobals "_law_bad_call" = some (some (.ref f32)))
    (l32 : K.lookup f32 = some ⟨oc32, od32, .func (PySem.W.fnOf "_law_bad_call" "_law_bad_call" (defArgs s_law_bad_call) (defBody s_law_bad_call) (defScope s_law_bad_call) .none kV32 dc32 pm32 an32 cd32 ct32), sl32⟩)
    (c32 : PySem.W.codeIn K cd32 "_law_bad_call" = true)
    (k32 : PySem.W.keepIn K (.ref f32) = true)
    (a33 : PySem.W.nsIn K mainGlobals "_law_check" = some (some (.ref f33)))
    (l33 : K.lookup f33 = some ⟨oc33, od33, .func (PySem.W.fnOf "_law_check" "_law_check" (defArgs s_law_check) (defBody s_law_check) (defScope s_law_check) .none kV33 dc33 pm33 an33 cd33 ct33), sl33⟩)
    (c33 : PySem.W.codeIn K cd33 "_law_check" = true)
    (k33 : PySem.W.keepIn K (.ref f33) = true)
    (a34 : PySem.W.nsIn K mainGlobals "_law_huge_values" = some (some (.ref f34)))
    (l34 : K.lookup f34 = some ⟨oc34, od34, .func (PySem.W.fnOf "_law_huge_values" "_law_huge_values" (defArgs s_law_huge_values) (defBody s_law_huge_values) (defScope s_law_huge_values) .none kV34 dc34 pm34 an34 cd34 ct34), sl34⟩)
    (c34 : PySem.W.codeIn K cd34 "_law_huge_values" = true)
    (k34 : PySem.W.keepIn K (.ref f34) = true)
    (a35 : PySem.W.nsIn K mainGlobals "law" = some (some (.ref f35)))
    (l35 : K.lookup f35 = some ⟨oc35, od35, .func (PySem.W.fnOf "law" "law" (defArgs s_law) (defBody s_law) (defScope s_law) .none kV35 dc35 pm35 an35 cd35 ct35), sl35⟩)
    (c35 : PySem.W.codeIn K cd35 "law" = true)
    (k35 : PySem.W.keepIn K (.ref f35) = true)
    (xl_InvalidTable : K.lookup C_InvalidTable = some (excClassObj nm_InvalidTable q_InvalidTable C_InvalidTable N_InvalidTable bs_InvalidTable [.ref B_InvalidTable, .type "ValueError", .type "Exception", .type "BaseException", .type "object"] true sn_InvalidTable sub_InvalidTable ab_InvalidTable col_InvalidTable dd_InvalidTable m0_InvalidTable m1_InvalidTable m2_InvalidTable m3_InvalidTable m5_InvalidTable "ValueError.__new__"))
    (sa_InvalidTable : PySem.W.findIn K (.ref C_InvalidTable) "__setattr__" = some (some (.builtin "object.__setattr__")))
    (ga_InvalidTable : PySem.W.findIn K (.ref C_InvalidTable) "__getattribute__" = some (some (.builtin "BaseException.__getattribute__")))
    (gg_InvalidTable : PySem.W.findIn K (.ref C_InvalidTable) "__getattr__" = some none)
    (ti_InvalidTable : PySem.W.typeIn K (.ref f0) = some (.type "function"))
    (kc_InvalidTable : PySem.W.keepIn K (.ref C_InvalidTable) = true)
    (ex_InvalidTable : PySem.W.subIn K (.ref C_InvalidTable) (.type "BaseException") = some true)
    (ty_InvalidTable : PySem.W.typeIn K (.ref C_InvalidTable) = some (.type "type"))
    (hd_InvalidTable : PySem.W.hasDictIn K C_InvalidTable = true)
    (il_InvalidTable : PySem.W.isClsIn K C_InvalidTable = true)
    (ss_InvalidTable : PySem.W.subIn K (.ref C_InvalidTable) (.ref C_InvalidTable) = some true)
    (ss_InvalidTable_SeatError : PySem.W.subIn K (.ref C_InvalidTable) (.ref C_SeatError) = some true)
    (n_InvalidTable_rings : PySem.W.findIn K (.ref C_InvalidTable) "rings" = some none)
    (xl_InvalidSeat : K.lookup C_InvalidSeat = some (excClassObj nm_InvalidSeat q_InvalidSeat C_InvalidSeat N_InvalidSeat bs_InvalidSeat [.ref B_InvalidSeat, .type "ValueError", .type "Exception", .type "BaseException", .type "object"] true sn_InvalidSeat sub_InvalidSeat ab_InvalidSeat col_InvalidSeat dd_InvalidSeat m0_InvalidSeat m1_InvalidSeat m2_InvalidSeat m3_InvalidSeat m5_InvalidSeat "ValueError.__new__"))
    (sa_InvalidSeat : PySem.W.findIn K (.ref C_InvalidSeat) "__setattr__" = some (some (.builtin "object.__setattr__")))
    (ga_InvalidSeat : PySem.W.findIn K (.ref C_InvalidSeat) "__getattribute__" = some (some (.builtin "BaseException.__getattribute__")))
    (gg_InvalidSeat : PySem.W.findIn K (.ref C_InvalidSeat) "__getattr__" = some none)
    (ti_InvalidSeat : PySem.W.typeIn K (.ref f1) = some (.type "function"))
    (kc_InvalidSeat : PySem.W.keepIn K (.ref C_InvalidSeat) = true)
    (ex_InvalidSeat : PySem.W.subIn K (.ref C_InvalidSeat) (.type "BaseException") = some true)
    (ty_InvalidSeat : PySem.W.typeIn K (.ref C_InvalidSeat) = some (.type "type"))
    (hd_InvalidSeat : PySem.W.hasDictIn K C_InvalidSeat = true)
    (il_InvalidSeat : PySem.W.isClsIn K C_InvalidSeat = true)
    (ss_InvalidSeat : PySem.W.subIn K (.ref C_InvalidSeat) (.ref C_InvalidSeat) = some true)
    (ss_InvalidSeat_SeatError : PySem.W.subIn K (.ref C_InvalidSeat) (.ref C_SeatError) = some true)
    (n_InvalidSeat_seat : PySem.W.findIn K (.ref C_InvalidSeat) "seat" = some none)
    (xl_InvalidCall : K.lookup C_InvalidCall = some (excClassObj nm_InvalidCall q_InvalidCall C_InvalidCall N_InvalidCall bs_InvalidCall [.ref B_InvalidCall, .type "ValueError", .type "Exception", .type "BaseException", .type "object"] true sn_InvalidCall sub_InvalidCall ab_InvalidCall col_InvalidCall dd_InvalidCall m0_InvalidCall m1_InvalidCall m2_InvalidCall m3_InvalidCall m5_InvalidCall "ValueError.__new__"))
    (sa_InvalidCall : PySem.W.findIn K (.ref C_InvalidCall) "__setattr__" = some (some (.builtin "object.__setattr__")))
    (ga_InvalidCall : PySem.W.findIn K (.ref C_InvalidCall) "__getattribute__" = some (some (.builtin "BaseException.__getattribute__")))
    (gg_InvalidCall : PySem.W.findIn K (.ref C_InvalidCall) "__getattr__" = some none)
    (ti_InvalidCall : PySem.W.typeIn K (.ref f2) = some (.type "function"))
    (kc_InvalidCall : PySem.W.keepIn K (.ref C_InvalidCall) = true)
    (ex_InvalidCall : PySem.W.subIn K (.ref C_InvalidCall) (.type "BaseException") = some true)
    (ty_InvalidCall : PySem.W.typeIn K (.ref C_InvalidCall) = some (.type "type"))
    (hd_InvalidCall : PySem.W.hasDictIn K C_InvalidCall = true)
    (il_InvalidCall : PySem.W.isClsIn K C_InvalidCall = true)
    (ss_InvalidCall : PySem.W.subIn K (.ref C_InvalidCall) (.ref C_InvalidCall) = some true)
    (ss_InvalidCall_SeatError : PySem.W.subIn K (.ref C_InvalidCall) (.ref C_SeatError) = some true)
    (n_InvalidCall_call : PySem.W.findIn K (.ref C_InvalidCall) "call" = some none)
    (xl_InvalidDirection : K.lookup C_InvalidDirection = some (excClassObj nm_InvalidDirection q_InvalidDirection C_InvalidDirection N_InvalidDirection bs_InvalidDirection [.ref B_InvalidDirection, .type "ValueError", .type "Exception", .type "BaseException", .type "object"] true sn_InvalidDirection sub_InvalidDirection ab_InvalidDirection col_InvalidDirection dd_InvalidDirection m0_InvalidDirection m1_InvalidDirection m2_InvalidDirection m3_InvalidDirection m5_InvalidDirection "ValueError.__new__"))
    (sa_InvalidDirection : PySem.W.findIn K (.ref C_InvalidDirection) "__setattr__" = some (some (.builtin "object.__setattr__")))
    (ga_InvalidDirection : PySem.W.findIn K (.ref C_InvalidDirection) "__getattribute__" = some (some (.builtin "BaseException.__getattribute__")))
    (gg_InvalidDirection : PySem.W.findIn K (.ref C_InvalidDirection) "__getattr__" = some none)
    (ti_InvalidDirection : PySem.W.typeIn K (.ref f3) = some (.type "function"))
    (kc_InvalidDirection : PySem.W.keepIn K (.ref C_InvalidDirection) = true)
    (ex_InvalidDirection : PySem.W.subIn K (.ref C_InvalidDirection) (.type "BaseException") = some true)
    (ty_InvalidDirection : PySem.W.typeIn K (.ref C_InvalidDirection) = some (.type "type"))
    (hd_InvalidDirection : PySem.W.hasDictIn K C_InvalidDirection = true)
    (il_InvalidDirection : PySem.W.isClsIn K C_InvalidDirection = true)
    (ss_InvalidDirection : PySem.W.subIn K (.ref C_InvalidDirection) (.ref C_InvalidDirection) = some true)
    (ss_InvalidDirection_SeatError : PySem.W.subIn K (.ref C_InvalidDirection) (.ref C_SeatError) = some true)
    (n_InvalidDirection_direction : PySem.W.findIn K (.ref C_InvalidDirection) "direction" = some none)
    (pg_Table : PySem.W.plainGet K C_Table Str.empty = true)
    (hd_Table : PySem.W.hasDictIn K C_Table = true)
    (po_Table : PySem.W.plainOver K C_Table = true)
    (sa_Table : PySem.W.findIn K (.ref C_Table) "__setattr__" = some (some (.builtin "object.__setattr__")))
    (mk_Table : PySem.W.makesIn K C_Table = true)
    (kc_Table : PySem.W.keepIn K (.ref C_Table) = true)
    (n_Table_rings : PySem.W.findIn K (.ref C_Table) "rings" = some none)
    (ig_ : PySem.W.specialIn K (.builtin "object.__class__") "__get__" = some (some (.builtin "getset_descriptor.__get__")))
    (it_ : PySem.W.takesIn K (.builtin "object.__class__") = some true)
    (ic_InvalidTable : PySem.W.findIn K (.ref C_InvalidTable) "__class__" = some (some (.builtin "object.__class__")))
    (im_InvalidTable : PySem.W.mroIn K C_InvalidTable (.type "object") = some true)
    (ic_InvalidSeat : PySem.W.findIn K (.ref C_InvalidSeat) "__class__" = some (some (.builtin "object.__class__")))
    (im_InvalidSeat : PySem.W.mroIn K C_InvalidSeat (.type "object") = some true)
    (ic_InvalidCall : PySem.W.findIn K (.ref C_InvalidCall) "__class__" = some (some (.builtin "object.__class__")))
    (im_InvalidCall : PySem.W.mroIn K C_InvalidCall (.type "object") = some true)
    (ic_InvalidDirection : PySem.W.findIn K (.ref C_InvalidDirection) "__class__" = some (some (.builtin "object.__class__")))
    (im_InvalidDirection : PySem.W.mroIn K C_InvalidDirection (.type "object") = some true)
    (ki_InvalidTable_InvalidSeat : PySem.W.kitAny K (.ref C_InvalidTable) [.ref C_InvalidSeat] = some false)
    (ki_InvalidTable_InvalidCall : PySem.W.kitAny K (.ref C_InvalidTable) [.ref C_InvalidCall] = some false)
    (ki_InvalidTable_InvalidDirection : PySem.W.kitAny K (.ref C_InvalidTable) [.ref C_InvalidDirection] = some false)
    (ki_InvalidTable_InvalidWitness : PySem.W.kitAny K (.ref C_InvalidTable) [.ref C_InvalidWitness] = some false)
    (ki_InvalidTable_InvalidTargets : PySem.W.kitAny K (.ref C_InvalidTable) [.ref C_InvalidTargets] = some false)
    (ki_InvalidTable_ValueError : PySem.W.kitAny K (.ref C_InvalidTable) [.type "ValueError"] = some true)
    (ki_InvalidSeat_InvalidTable : PySem.W.kitAny K (.ref C_InvalidSeat) [.ref C_InvalidTable] = some false)
    (ki_InvalidSeat_InvalidCall : PySem.W.kitAny K (.ref C_InvalidSeat) [.ref C_InvalidCall] = some false)
    (ki_InvalidSeat_InvalidDirection : PySem.W.kitAny K (.ref C_InvalidSeat) [.ref C_InvalidDirection] = some false)
    (ki_InvalidSeat_InvalidWitness : PySem.W.kitAny K (.ref C_InvalidSeat) [.ref C_InvalidWitness] = some false)
    (ki_InvalidSeat_InvalidTargets : PySem.W.kitAny K (.ref C_InvalidSeat) [.ref C_InvalidTargets] = some false)
    (ki_InvalidSeat_ValueError : PySem.W.kitAny K (.ref C_InvalidSeat) [.type "ValueError"] = some true)
    (ki_InvalidCall_InvalidTable : PySem.W.kitAny K (.ref C_InvalidCall) [.ref C_InvalidTable] = some false)
    (ki_InvalidCall_InvalidSeat : PySem.W.kitAny K (.ref C_InvalidCall) [.ref C_InvalidSeat] = some false)
    (ki_InvalidCall_InvalidDirection : PySem.W.kitAny K (.ref C_InvalidCall) [.ref C_InvalidDirection] = some false)
    (ki_InvalidCall_InvalidWitness : PySem.W.kitAny K (.ref C_InvalidCall) [.ref C_InvalidWitness] = some false)
    (ki_InvalidCall_InvalidTargets : PySem.W.kitAny K (.ref C_InvalidCall) [.ref C_InvalidTargets] = some false)
    (ki_InvalidCall_ValueError : PySem.W.kitAny K (.ref C_InvalidCall) [.type "ValueError"] = some true)
    (ki_InvalidDirection_InvalidTable : PySem.W.kitAny K (.ref C_InvalidDirection) [.ref C_InvalidTable] = some false)
    (ki_InvalidDirection_InvalidSeat : PySem.W.kitAny K (.ref C_InvalidDirection) [.ref C_InvalidSeat] = some false)
    (ki_InvalidDirection_InvalidCall : PySem.W.kitAny K (.ref C_InvalidDirection) [.ref C_InvalidCall] = some false)
    (ki_InvalidDirection_InvalidWitness : PySem.W.kitAny K (.ref C_InvalidDirection) [.ref C_InvalidWitness] = some false)
    (ki_InvalidDirection_InvalidTargets : PySem.W.kitAny K (.ref C_InvalidDirection) [.ref C_InvalidTargets] = some false)
    (ki_InvalidDirection_ValueError : PySem.W.kitAny K (.ref C_InvalidDirection) [.type "ValueError"] = some true)
    (v_MAX_RINGS : PySem.W.nsIn K mainGlobals "MAX_RINGS" = some (some (.int 4 t_MAX_RINGS)))
    (z_ValueError : PySem.W.nsIn K mainGlobals "ValueError" = some none)
    (z_abs : PySem.W.nsIn K mainGlobals "abs" = some none)
    (z_all : PySem.W.nsIn K mainGlobals "all" = some none)
    (z_bool : PySem.W.nsIn K mainGlobals "bool" = some none)
    (z_int : PySem.W.nsIn K mainGlobals "int" = some none)
    (z_isinstance : PySem.W.nsIn K mainGlobals "isinstance" = some none)
    (z_len : PySem.W.nsIn K mainGlobals "len" = some none)
    (z_list : PySem.W.nsIn K mainGlobals "list" = some none)
    (z_min : PySem.W.nsIn K mainGlobals "min" = some none)
    (z_range : PySem.W.nsIn K mainGlobals "range" = some none)
    (z_repr : PySem.W.nsIn K mainGlobals "repr" = some none)
    (z_str : PySem.W.nsIn K mainGlobals "str" = some none)
    (z_tuple : PySem.W.nsIn K mainGlobals "tuple" = some none)
    (z_zip : PySem.W.nsIn K mainGlobals "zip" = some none)
    : ∃ T : TX K mg, T.f_law = f35 ∧ T.fd_law = PySem.W.fnOf "law" "law" (defArgs s_law) (defBody s_law) (defScope s_law) .none kV35 dc35 pm35 an35 cd35 ct35 := by
  have F0 := fun_mk (st := s_InvalidTable_init) l0 c0 k0
  have b0 := F0.binds (ps := ["self", "rings"]) fun _ _ _ _ _ _ us hl => match us, hl with | [_, _], _ => rfl
  have F1 := fun_mk (st := s_InvalidSeat_init) l1 c1 k1
  have b1 := F1.binds (ps := ["self", "seat"]) fun _ _ _ _ _ _ us hl => match us, hl with | [_, _], _ => rfl
  have F2 := fun_mk (st := s_InvalidCall_init) l2 c2 k2
  have b2 := F2.binds (ps := ["self", "call"]) fun _ _ _ _ _ _ us hl => match us, hl with | [_, _], _ => rfl
  have F3 := fun_mk (st := s_InvalidDirection_init) l3 c3 k3
  have b3 := F3.binds (ps := ["self", "direction"]) fun _ _ _ _ _ _ us hl => match us, hl with | [_, _], _ => rfl
  have F4 := fun_mk (st := s_is_integer) l4 c4 k4
  have b4 := F4.binds (ps := ["value"]) fun _ _ _ _ _ _ us hl => match us, hl with | [_], _ => rfl
  have F5 := fun_mk (st := s_is_at_least) l5 c5 k5
  have b5 := F5.binds (ps := ["value", "low"]) fun _ _ _ _ _ _ us hl => match us, hl with | [_, _], _ => rfl
  have F6 := fun_mk (st := s_is_between) l6 c6 k6
  have b6 := F6.binds (ps := ["value", "low", "high"]) fun _ _ _ _ _ _ us hl => match us, hl with | [_, _, _], _ => rfl
  have F7 := fun_mk (st := s_greatest_common_divisor) l7 c7 k7
  have b7 := F7.binds (ps := ["first", "second"]) fun _ _ _ _ _ _ us hl => match us, hl with | [_, _], _ => rfl
  have F8 := fun_mk (st := s_Table_init) l8 c8 k8
  have b8 := F8.binds (ps := ["self", "rings"]) fun _ _ _ _ _ _ us hl => match us, hl with | [_, _], _ => rfl
  have F9 := fun_mk (st := s_Table_sizes) l9 c9 k9
  have b9 := F9.binds (ps := ["self"]) fun _ _ _ _ _ _ us hl => match us, hl with | [_], _ => rfl
  have F10 := fun_mk (st := s_Table_count) l10 c10 k10
  have b10 := F10.binds (ps := ["self"]) fun _ _ _ _ _ _ us hl => match us, hl with | [_], _ => rfl
  have F11 := fun_mk (st := s_Table_is_seat) l11 c11 k11
  have b11 := F11.binds (ps := ["self", "value"]) fun _ _ _ _ _ _ us hl => match us, hl with | [_, _], _ => rfl
  have F12 := fun_mk (st := s_Table_is_call) l12 c12 k12
  have b12 := F12.binds (ps := ["self", "value"]) fun _ _ _ _ _ _ us hl => match us, hl with | [_, _], _ => rfl
  have F13 := fun_mk (st := s_Table_shifted) l13 c13 k13
  have b13 := F13.binds (ps := ["self", "seat", "call", "factor"]) fun _ _ _ _ _ _ us hl => match us, hl with | [_, _, _, _], _ => rfl
  have F14 := fun_mk (st := s_Table_moves) l14 c14 k14
  have b14 := F14.binds (ps := ["self", "seat", "call"]) fun _ _ _ _ _ _ us hl => match us, hl with | [_, _, _], _ => rfl
  have F15 := fun_mk (st := s_Table_step) l15 c15 k15
  have b15 := F15.binds (ps := ["self", "seat", "call", "direction"]) fun _ _ _ _ _ _ us hl => match us, hl with | [_, _, _, _], _ => rfl
  have F16 := fun_mk (st := s_Table_order) l16 c16 k16
  have b16 := F16.binds (ps := ["self", "seat"]) fun _ _ _ _ _ _ us hl => match us, hl with | [_, _], _ => rfl
  have F17 := fun_mk (st := s_Table_halves) l17 c17 k17
  have b17 := F17.binds (ps := ["self", "seat"]) fun _ _ _ _ _ _ us hl => match us, hl with | [_, _], _ => rfl
  have F18 := fun_mk (st := s_half_places) l18 c18 k18
  have b18 := F18.binds (ps := ["place", "size"]) fun _ _ _ _ _ _ us hl => match us, hl with | [_, _], _ => rfl
  have F19 := fun_mk (st := s_is_direction) l19 c19 k19
  have b19 := F19.binds (ps := ["value"]) fun _ _ _ _ _ _ us hl => match us, hl with | [_], _ => rfl
  have F20 := fun_mk (st := s_require_seat) l20 c20 k20
  have b20 := F20.binds (ps := ["table", "seat"]) fun _ _ _ _ _ _ us hl => match us, hl with | [_, _], _ => rfl
  have F21 := fun_mk (st := s_require_call) l21 c21 k21
  have b21 := F21.binds (ps := ["table", "call"]) fun _ _ _ _ _ _ us hl => match us, hl with | [_, _], _ => rfl
  have F22 := fun_mk (st := s_law_mixed) l22 c22 k22
  have b22 := F22.binds (ps := ["_law_cell", "_law_draw"]) fun _ _ _ _ _ _ us hl => match us, hl with | [_, _], _ => rfl
  have F23 := fun_mk (st := s_law_source) l23 c23 k23
  have b23 := F23.binds (ps := ["_law_cell"]) fun _ _ _ _ _ _ us hl => match us, hl with | [_], _ => rfl
  have F24 := fun_mk (st := s_law_take) l24 c24 k24
  have b24 := F24.binds (ps := ["_law_source_here", "_law_count"]) fun _ _ _ _ _ _ us hl => match us, hl with | [_, _], _ => rfl
  have F25 := fun_mk (st := s_law_big) l25 c25 k25
  have b25 := F25.binds (ps := ["_law_source_here"]) fun _ _ _ _ _ _ us hl => match us, hl with | [_], _ => rfl
  have F26 := fun_mk (st := s_law_rings) l26 c26 k26
  have b26 := F26.binds (ps := ["_law_source_here"]) fun _ _ _ _ _ _ us hl => match us, hl with | [_], _ => rfl
  have F27 := fun_mk (st := s_law_call) l27 c27 k27
  have b27 := F27.binds (ps := ["_law_source_here", "_law_sizes"]) fun _ _ _ _ _ _ us hl => match us, hl with | [_, _], _ => rfl
  have F28 := fun_mk (st := s_law_odd_value) l28 c28 k28
  have b28 := F28.binds (ps := ["_law_source_here"]) fun _ _ _ _ _ _ us hl => match us, hl with | [_], _ => rfl
  have F29 := fun_mk (st := s_law_raised) l29 c29 k29
  have b29 := F29.binds (ps := ["_law_attempt"]) fun _ _ _ _ _ _ us hl => match us, hl with | [_], _ => rfl
  have F30 := fun_mk (st := s_law_bad_rings) l30 c30 k30
  have b30 := F30.binds (ps := ["_law_source_here", "_law_sizes"]) fun _ _ _ _ _ _ us hl => match us, hl with | [_, _], _ => rfl
  have F31 := fun_mk (st := s_law_bad_seat) l31 c31 k31
  have b31 := F31.binds (ps := ["_law_source_here", "_law_sizes"]) fun _ _ _ _ _ _ us hl => match us, hl with | [_, _], _ => rfl
  have F32 := fun_mk (st := s_law_bad_call) l32 c32 k32
  have b32 := F32.binds (ps := ["_law_source_here", "_law_sizes"]) fun _ _ _ _ _ _ us hl => match us, hl with | [_, _], _ => rfl
  have F33 := fun_mk (st := s_law_check) l33 c33 k33
  have b33 := F33.binds (ps := ["_law_source_here"]) fun _ _ _ _ _ _ us hl => match us, hl with | [_], _ => rfl
  have F34 := fun_mk (st := s_law_huge_values) l34 c34 k34
  have b34 := F34.binds (ps := []) fun _ _ _ _ _ _ us hl => match us, hl with | [], _ => rfl
  have F35 := fun_mk (st := s_law) l35 c35 k35
  have b35 := F35.binds (ps := ["_law_script"]) fun _ _ _ _ _ _ us hl => match us, hl with | [_], _ => rfl
  exact ⟨{
    f_InvalidTable_init := f0, fd_InvalidTable_init := _, F_InvalidTable_init := F0, b_InvalidTable_init := b0,
    f_InvalidSeat_init := f1, fd_InvalidSeat_init := _, F_InvalidSeat_init := F1, b_InvalidSeat_init := b1,
    f_InvalidCall_init := f2, fd_InvalidCall_init := _, F_InvalidCall_init := F2, b_InvalidCall_init := b2,
    f_InvalidDirection_init := f3, fd_InvalidDirection_init := _, F_InvalidDirection_init := F3, b_InvalidDirection_init := b3,
    f_is_integer := f4, fd_is_integer := _, F_is_integer := F4, b_is_integer := b4, m_is_integer := PySem.W.mg_of X G a4,
    f_is_at_least := f5, fd_is_at_least := _, F_is_at_least := F5, b_is_at_least := b5, m_is_at_least := PySem.W.mg_of X G a5,
    f_is_between := f6, fd_is_between := _, F_is_between := F6, b_is_between := b6, m_is_between := PySem.W.mg_of X G a6,
    f_greatest_common_divisor := f7, fd_greatest_common_divisor := _, F_greatest_common_divisor := F7, b_greatest_common_divisor := b7, m_greatest_common_divisor := PySem.W.mg_of X G a7,
    f_Table_init := f8, fd_Table_init := _, F_Table_init := F8, b_Table_init := b8,
    f_Table_sizes := f9, fd_Table_sizes := _, F_Table_sizes := F9, b_Table_sizes := b9,
    f_Table_count := f10, fd_Table_count := _, F_Table_count := F10, b_Table_count := b10,
    f_Table_is_seat := f11, fd_Table_is_seat := _, F_Table_is_seat := F11, b_Table_is_seat := b11,
    f_Table_is_call := f12, fd_Table_is_call := _, F_Table_is_call := F12, b_Table_is_call := b12,
    f_Table_shifted := f13, fd_Table_shifted := _, F_Table_shifted := F13, b_Table_shifted := b13,
    f_Table_moves := f14, fd_Table_moves := _, F_Table_moves := F14, b_Table_moves := b14,
    f_Table_step := f15, fd_Table_step := _, F_Table_step := F15, b_Table_step := b15,
    f_Table_order := f16, fd_Table_order := _, F_Table_order := F16, b_Table_order := b16,
    f_Table_halves := f17, fd_Table_halves := _, F_Table_halves := F17, b_Table_halves := b17,
    f_half_places := f18, fd_half_places := _, F_half_places := F18, b_half_places := b18, m_half_places := PySem.W.mg_of X G a18,
    f_is_direction := f19, fd_is_direction := _, F_is_direction := F19, b_is_direction := b19, m_is_direction := PySem.W.mg_of X G a19,
    f_require_seat := f20, fd_require_seat := _, F_require_seat := F20, b_require_seat := b20, m_require_seat := PySem.W.mg_of X G a20,
    f_require_call := f21, fd_require_call := _, F_require_call := F21, b_require_call := b21, m_require_call := PySem.W.mg_of X G a21,
    f_law_mixed := f22, fd_law_mixed := _, F_law_mixed := F22, b_law_mixed := b22, m_law_mixed := PySem.W.mg_of X G a22,
    f_law_source := f23, fd_law_source := _, F_law_source := F23, b_law_source := b23, m_law_source := PySem.W.mg_of X G a23,
    f_law_take := f24, fd_law_take := _, F_law_take := F24, b_law_take := b24, m_law_take := PySem.W.mg_of X G a24,
    f_law_big := f25, fd_law_big := _, F_law_big := F25, b_law_big := b25, m_law_big := PySem.W.mg_of X G a25,
    f_law_rings := f26, fd_law_rings := _, F_law_rings := F26, b_law_rings := b26, m_law_rings := PySem.W.mg_of X G a26,
    f_law_call := f27, fd_law_call := _, F_law_call := F27, b_law_call := b27, m_law_call := PySem.W.mg_of X G a27,
    f_law_odd_value := f28, fd_law_odd_value := _, F_law_odd_value := F28, b_law_odd_value := b28, m_law_odd_value := PySem.W.mg_of X G a28,
    f_law_raised := f29, fd_law_raised := _, F_law_raised := F29, b_law_raised := b29, m_law_raised := PySem.W.mg_of X G a29,
    f_law_bad_rings := f30, fd_law_bad_rings := _, F_law_bad_rings := F30, b_law_bad_rings := b30, m_law_bad_rings := PySem.W.mg_of X G a30,
    f_law_bad_seat := f31, fd_law_bad_seat := _, F_law_bad_seat := F31, b_law_bad_seat := b31, m_law_bad_seat := PySem.W.mg_of X G a31,
    f_law_bad_call := f32, fd_law_bad_call := _, F_law_bad_call := F32, b_law_bad_call := b32, m_law_bad_call := PySem.W.mg_of X G a32,
    f_law_check := f33, fd_law_check := _, F_law_check := F33, b_law_check := b33, m_law_check := PySem.W.mg_of X G a33,
    f_law_huge_values := f34, fd_law_huge_values := _, F_law_huge_values := F34, b_law_huge_values := b34, m_law_huge_values := PySem.W.mg_of X G a34,
    f_law := f35, fd_law := _, F_law := F35, b_law := b35, m_law := PySem.W.mg_of X G a35,
    C_SeatError := C_SeatError, m_SeatError := PySem.W.mg_of X G aC_SeatError,
    C_InvalidWitness := C_InvalidWitness, m_InvalidWitness := PySem.W.mg_of X G aC_InvalidWitness,
    C_InvalidTargets := C_InvalidTargets, m_InvalidTargets := PySem.W.mg_of X G aC_InvalidTargets,
    C_InvalidTable := C_InvalidTable, m_InvalidTable := PySem.W.mg_of X G aC_InvalidTable, ox_InvalidTable := ⟨⟨nm_InvalidTable, q_InvalidTable, N_InvalidTable, bs_InvalidTable, _, sn_InvalidTable, sub_InvalidTable, ab_InvalidTable, col_InvalidTable, dd_InvalidTable, m0_InvalidTable, m1_InvalidTable, m2_InvalidTable, m3_InvalidTable, m5_InvalidTable, xl_InvalidTable, by rfl⟩, sa_InvalidTable, ex_InvalidTable, ty_InvalidTable, kc_InvalidTable⟩, xf_InvalidTable := ⟨ga_InvalidTable, gg_InvalidTable, ex_InvalidTable, hd_InvalidTable⟩, i_InvalidTable := a0, ti_InvalidTable := ti_InvalidTable, em_InvalidTable := exm_self ex_InvalidTable il_InvalidTable ty_InvalidTable ss_InvalidTable,
    em_InvalidTable_SeatError := exm_base ex_SeatError il_SeatError ty_SeatError ss_InvalidTable_SeatError,
    n_InvalidTable_rings := n_InvalidTable_rings,
    C_InvalidSeat := C_InvalidSeat, m_InvalidSeat := PySem.W.mg_of X G aC_InvalidSeat, ox_InvalidSeat := ⟨⟨nm_InvalidSeat, q_InvalidSeat, N_InvalidSeat, bs_InvalidSeat, _, sn_InvalidSeat, sub_InvalidSeat, ab_InvalidSeat, col_InvalidSeat, dd_InvalidSeat, m0_InvalidSeat, m1_InvalidSeat, m2_InvalidSeat, m3_InvalidSeat, m5_InvalidSeat, xl_InvalidSeat, by rfl⟩, sa_InvalidSeat, ex_InvalidSeat, ty_InvalidSeat, kc_InvalidSeat⟩, xf_InvalidSeat := ⟨ga_InvalidSeat, gg_InvalidSeat, ex_InvalidSeat, hd_InvalidSeat⟩, i_InvalidSeat := a1, ti_InvalidSeat := ti_InvalidSeat, em_InvalidSeat := exm_self ex_InvalidSeat il_InvalidSeat ty_InvalidSeat ss_InvalidSeat,
    em_InvalidSeat_SeatError := exm_base ex_SeatError il_SeatError ty_SeatError ss_InvalidSeat_SeatError,
    n_InvalidSeat_seat := n_InvalidSeat_seat,
    C_InvalidCall := C_InvalidCall, m_InvalidCall := PySem.W.mg_of X G aC_InvalidCall, ox_InvalidCall := ⟨⟨nm_InvalidCall, q_InvalidCall, N_InvalidCall, bs_InvalidCall, _, sn_InvalidCall, sub_InvalidCall, ab_InvalidCall, col_InvalidCall, dd_InvalidCall, m0_InvalidCall, m1_InvalidCall, m2_InvalidCall, m3_InvalidCall, m5_InvalidCall, xl_InvalidCall, by rfl⟩, sa_InvalidCall, ex_InvalidCall, ty_InvalidCall, kc_InvalidCall⟩, xf_InvalidCall := ⟨ga_InvalidCall, gg_InvalidCall, ex_InvalidCall, hd_InvalidCall⟩, i_InvalidCall := a2, ti_InvalidCall := ti_InvalidCall, em_InvalidCall := exm_self ex_InvalidCall il_InvalidCall ty_InvalidCall ss_InvalidCall,
    em_InvalidCall_SeatError := exm_base ex_SeatError il_SeatError ty_SeatError ss_InvalidCall_SeatError,
    n_InvalidCall_call := n_InvalidCall_call,
    C_InvalidDirection := C_InvalidDirection, m_InvalidDirection := PySem.W.mg_of X G aC_InvalidDirection, ox_InvalidDirection := ⟨⟨nm_InvalidDirection, q_InvalidDirection, N_InvalidDirection, bs_InvalidDirection, _, sn_InvalidDirection, sub_InvalidDirection, ab_InvalidDirection, col_InvalidDirection, dd_InvalidDirection, m0_InvalidDirection, m1_InvalidDirection, m2_InvalidDirection, m3_InvalidDirection, m5_InvalidDirection, xl_InvalidDirection, by rfl⟩, sa_InvalidDirection, ex_InvalidDirection, ty_InvalidDirection, kc_InvalidDirection⟩, xf_InvalidDirection := ⟨ga_InvalidDirection, gg_InvalidDirection, ex_InvalidDirection, hd_InvalidDirection⟩, i_InvalidDirection := a3, ti_InvalidDirection := ti_InvalidDirection, em_InvalidDirection := exm_self ex_InvalidDirection il_InvalidDirection ty_InvalidDirection ss_InvalidDirection,
    em_InvalidDirection_SeatError := exm_base ex_SeatError il_SeatError ty_SeatError ss_InvalidDirection_SeatError,
    n_InvalidDirection_direction := n_InvalidDirection_direction,
    C_Table := C_Table, cl_Table := ⟨pg_Table, hd_Table, po_Table, sa_Table⟩, m_Table := PySem.W.mg_of X G aC_Table,
    M_Table := ⟨mk_Table, a8, i8, kc_Table⟩,
    me_Table_sizes := ⟨a9, i9, k9⟩,
    me_Table_count := ⟨a10, i10, k10⟩,
    me_Table_is_seat := ⟨a11, i11, k11⟩,
    me_Table_is_call := ⟨a12, i12, k12⟩,
    me_Table_shifted := ⟨a13, i13, k13⟩,
    me_Table_moves := ⟨a14, i14, k14⟩,
    me_Table_step := ⟨a15, i15, k15⟩,
    me_Table_order := ⟨a16, i16, k16⟩,
    me_Table_halves := ⟨a17, i17, k17⟩,
    n_Table_rings := n_Table_rings,
    xi_InvalidTable := ⟨il_InvalidTable, ga_InvalidTable, gg_InvalidTable, ex_InvalidTable, ic_InvalidTable, ig_, it_, im_InvalidTable⟩,
    xi_InvalidSeat := ⟨il_InvalidSeat, ga_InvalidSeat, gg_InvalidSeat, ex_InvalidSeat, ic_InvalidSeat, ig_, it_, im_InvalidSeat⟩,
    xi_InvalidCall := ⟨il_InvalidCall, ga_InvalidCall, gg_InvalidCall, ex_InvalidCall, ic_InvalidCall, ig_, it_, im_InvalidCall⟩,
    xi_InvalidDirection := ⟨il_InvalidDirection, ga_InvalidDirection, gg_InvalidDirection, ex_InvalidDirection, ic_InvalidDirection, ig_, it_, im_InvalidDirection⟩,
    ki_InvalidTable_InvalidSeat := ki_InvalidTable_InvalidSeat,
    ki_InvalidTable_InvalidCall := ki_InvalidTable_InvalidCall,
    ki_InvalidTable_InvalidDirection := ki_InvalidTable_InvalidDirection,
    ki_InvalidTable_InvalidWitness := ki_InvalidTable_InvalidWitness,
    ki_InvalidTable_InvalidTargets := ki_InvalidTable_InvalidTargets,
    ki_InvalidTable_ValueError := ki_InvalidTable_ValueError,
    ki_InvalidSeat_InvalidTable := ki_InvalidSeat_InvalidTable,
    ki_InvalidSeat_InvalidCall := ki_InvalidSeat_InvalidCall,
    ki_InvalidSeat_InvalidDirection := ki_InvalidSeat_InvalidDirection,
    ki_InvalidSeat_InvalidWitness := ki_InvalidSeat_InvalidWitness,
    ki_InvalidSeat_InvalidTargets := ki_InvalidSeat_InvalidTargets,
    ki_InvalidSeat_ValueError := ki_InvalidSeat_ValueError,
    ki_InvalidCall_InvalidTable := ki_InvalidCall_InvalidTable,
    ki_InvalidCall_InvalidSeat := ki_InvalidCall_InvalidSeat,
    ki_InvalidCall_InvalidDirection := ki_InvalidCall_InvalidDirection,
    ki_InvalidCall_InvalidWitness := ki_InvalidCall_InvalidWitness,
    ki_InvalidCall_InvalidTargets := ki_InvalidCall_InvalidTargets,
    ki_InvalidCall_ValueError := ki_InvalidCall_ValueError,
    ki_InvalidDirection_InvalidTable := ki_InvalidDirection_InvalidTable,
    ki_InvalidDirection_InvalidSeat := ki_InvalidDirection_InvalidSeat,
    ki_InvalidDirection_InvalidCall := ki_InvalidDirection_InvalidCall,
    ki_InvalidDirection_InvalidWitness := ki_InvalidDirection_InvalidWitness,
    ki_InvalidDirection_InvalidTargets := ki_InvalidDirection_InvalidTargets,
    ki_InvalidDirection_ValueError := ki_InvalidDirection_ValueError,
    t_MAX_RINGS := _, c_MAX_RINGS := PySem.W.mg_of X G v_MAX_RINGS,
    z_ValueError := PySem.W.mg_none_of X G z_ValueError,
    z_abs := PySem.W.mg_none_of X G z_abs,
    z_all := PySem.W.mg_none_of X G z_all,
    z_bool := PySem.W.mg_none_of X G z_bool,
    z_int := PySem.W.mg_none_of X G z_int,
    z_isinstance := PySem.W.mg_none_of X G z_isinstance,
    z_len := PySem.W.mg_none_of X G z_len,
    z_list := PySem.W.mg_none_of X G z_list,
    z_min := PySem.W.mg_none_of X G z_min,
    z_range := PySem.W.mg_none_of X G z_range,
    z_repr := PySem.W.mg_none_of X G z_repr,
    z_str := PySem.W.mg_none_of X G z_str,
    z_tuple := PySem.W.mg_none_of X G z_tuple,
    z_zip := PySem.W.mg_none_of X G z_zip
  }, rfl, rfl⟩
theorem use_mk {K : PySem.W.Frag} {h : Heap} {mg : Str → Option Value} (X : K.In h) (G : h.Ns mainGlobals mg)
    {f0 f1 f2 f3 f4 f5 f6 f7 f8 f9 f10 f11 f12 f13 f14 f15 f16 f17 f18 f19 f20 f21 f22 f23 f24 f25 f26 f27 f28 f29 f30 f31 f32 f33 f34 f35 C_InvalidTable C_InvalidSeat C_InvalidCall C_InvalidDirection C_Table C_SeatError C_InvalidWitness C_InvalidTargets : Addr}
    {od0 an0 od1 an1 od2 an2 od3 an3 od4 an4 od5 an5 od6 an6 od7 an7 od8 an8 od9 an9 od10 an10 od11 an11 od12 an12 od13 an13 od14 an14 od15 an15 od16 an16 od17 an17 od18 an18 od19 an19 od20 an20 od21 an21 od22 an22 od23 an23 od24 an24 od25 an25 od26 an26 od27 an27 od28 an28 od29 an29 od30 an30 od31 an31 od32 an32 od33 an33 od34 an34 od35 an35 : Option Addr} {sl0 sl1 sl2 sl3 sl4 sl5 sl6 sl7 sl8 sl9 sl10 sl11 sl12 sl13 sl14 sl15 sl16 sl17 sl18 sl19 sl20 sl21 sl22 sl23 sl24 sl25 sl26 sl27 sl28 sl29 sl30 sl31 sl32 sl33 sl34 sl35 : Array (Option Value)} {oc0 kV0 dc0 pm0 cd0 ct0 oc1 kV1 dc1 pm1 cd1 ct1 oc2 kV2 dc2 pm2 cd2 ct2 oc3 kV3 dc3 pm3 cd3 ct3 oc4 kV4 dc4 pm4 cd4 ct4 oc5 kV5 dc5 pm5 cd5 ct5 oc6 kV6 dc6 pm6 cd6 ct6 oc7 kV7 dc7 pm7 cd7 ct7 oc8 kV8 dc8 pm8 cd8 ct8 oc9 kV9 dc9 pm9 cd9 ct9 oc10 kV10 dc10 pm10 cd10 ct10 oc11 kV11 dc11 pm11 cd11 ct11 oc12 kV12 dc12 pm12 cd12 ct12 oc13 kV13 dc13 pm13 cd13 ct13 oc14 kV14 dc14 pm14 cd14 ct14 oc15 kV15 dc15 pm15 cd15 ct15 oc16 kV16 dc16 pm16 cd16 ct16 oc17 kV17 dc17 pm17 cd17 ct17 oc18 kV18 dc18 pm18 cd18 ct18 oc19 kV19 dc19 pm19 cd19 ct19 oc20 kV20 dc20 pm20 cd20 ct20 oc21 kV21 dc21 pm21 cd21 ct21 oc22 kV22 dc22 pm22 cd22 ct22 oc23 kV23 dc23 pm23 cd23 ct23 oc24 kV24 dc24 pm24 cd24 ct24 oc25 kV25 dc25 pm25 cd25 ct25 oc26 kV26 dc26 pm26 cd26 ct26 oc27 kV27 dc27 pm27 cd27 ct27 oc28 kV28 dc28 pm28 cd28 ct28 oc29 kV29 dc29 pm29 cd29 ct29 oc30 kV30 dc30 pm30 cd30 ct30 oc31 kV31 dc31 pm31 cd31 ct31 oc32 kV32 dc32 pm32 cd32 ct32 oc33 kV33 dc33 pm33 cd33 ct33 oc34 kV34 dc34 pm34 cd34 ct34 oc35 kV35 dc35 pm35 cd35 ct35 : Value}
    {nm_InvalidTable q_InvalidTable : Str} {N_InvalidTable B_InvalidTable : Addr} {bs_InvalidTable sub_InvalidTable : List Value} {sn_InvalidTable : List Str} {ab_InvalidTable : Bool} {col_InvalidTable : Option Bool} {dd_InvalidTable : Option Addr} {m0_InvalidTable m1_InvalidTable m2_InvalidTable m3_InvalidTable m5_InvalidTable : Option Value}
    {nm_InvalidSeat q_InvalidSeat : Str} {N_InvalidSeat B_InvalidSeat : Addr} {bs_InvalidSeat sub_InvalidSeat : List Value} {sn_InvalidSeat : List Str} {ab_InvalidSeat : Bool} {col_InvalidSeat : Option Bool} {dd_InvalidSeat : Option Addr} {m0_InvalidSeat m1_InvalidSeat m2_InvalidSeat m3_InvalidSeat m5_InvalidSeat : Option Value}
    {nm_InvalidCall q_InvalidCall : Str} {N_InvalidCall B_InvalidCall : Addr} {bs_InvalidCall sub_InvalidCall : List Value} {sn_InvalidCall : List Str} {ab_InvalidCall : Bool} {col_InvalidCall : Option Bool} {dd_InvalidCall : Option Addr} {m0_InvalidCall m1_InvalidCall m2_InvalidCall m3_InvalidCall m5_InvalidCall : Option Value}
    {nm_InvalidDirection q_InvalidDirection : Str} {N_InvalidDirection B_InvalidDirection : Addr} {bs_InvalidDirection sub_InvalidDirection : List Value} {sn_InvalidDirection : List Str} {ab_InvalidDirection : Bool} {col_InvalidDirection : Option Bool} {dd_InvalidDirection : Option Addr} {m0_InvalidDirection m1_InvalidDirection m2_InvalidDirection m3_InvalidDirection m5_InvalidDirection : Option Value}
    {t_MAX_RINGS : Tok}
    (aC_SeatError : PySem.W.nsIn K mainGlobals "SeatError" = some (some (.ref C_SeatError)))
    (ex_SeatError : PySem.W.subIn K (.ref C_SeatError) (.type "BaseException") = some true)
    (ty_SeatError : PySem.W.typeIn K (.ref C_SeatError) = some (.type "type"))
    (il_SeatError : PySem.W.isClsIn K C_SeatError = true)
    (aC_InvalidWitness : PySem.W.nsIn K mainGlobals "InvalidWitness" = some (some (.ref C_InvalidWitness)))
    (ex_InvalidWitness : PySem.W.subIn K (.ref C_InvalidWitness) (.type "BaseException") = some true)
    (ty_InvalidWitness : PySem.W.typeIn K (.ref C_InvalidWitness) = some (.type "type"))
    (il_InvalidWitness : PySem.W.isClsIn K C_InvalidWitness = true)
    (aC_InvalidTargets : PySem.W.nsIn K mainGlobals "InvalidTargets" = some (some (.ref C_InvalidTargets)))
    (ex_InvalidTargets : PySem.W.subIn K (.ref C_InvalidTargets) (.type "BaseException") = some true)
    (ty_InvalidTargets : PySem.W.typeIn K (.ref C_InvalidTargets) = some (.type "type"))
    (il_InvalidTargets : PySem.W.isClsIn K C_InvalidTargets = true)
    (aC_InvalidTable : PySem.W.nsIn K mainGlobals "InvalidTable" = some (some (.ref C_InvalidTable)))
    (aC_InvalidSeat : PySem.W.nsIn K mainGlobals "InvalidSeat" = some (some (.ref C_InvalidSeat)))
    (aC_InvalidCall : PySem.W.nsIn K mainGlobals "InvalidCall" = some (some (.ref C_InvalidCall)))
    (aC_InvalidDirection : PySem.W.nsIn K mainGlobals "InvalidDirection" = some (some (.ref C_InvalidDirection)))
    (aC_Table : PySem.W.nsIn K mainGlobals "Table" = some (some (.ref C_Table)))
    (a0 : PySem.W.findIn K (.ref C_InvalidTable) "__init__" = some (some (.ref f0)))
    (i0 : PySem.W.isFn K (.ref f0) = true)
    (l0 : K.lookup f0 = some ⟨oc0, od0, .func (PySem.W.fnOf "__init__" "InvalidTable.__init__" (defArgs s_InvalidTable_init) (defBody s_InvalidTable_init) (defScope s_InvalidTable_init) .none kV0 dc0 pm0 an0 cd0 ct0), sl0⟩)
    (c0 : PySem.W.codeIn K cd0 "InvalidTable.__init__" = true)
    (k0 : PySem.W.keepIn K (.ref f0) = true)
    (a1 : PySem.W.findIn K (.ref C_InvalidSeat) "__init__" = some (some (.ref f1)))
    (i1 : PySem.W.isFn K (.ref f1) = true)
    (l1 : K.lookup f1 = some ⟨oc1, od1, .func (PySem.W.fnOf "__init__" "InvalidSeat.__init__" (defArgs s_InvalidSeat_init) (defBody s_InvalidSeat_init) (defScope s_InvalidSeat_init) .none kV1 dc1 pm1 an1 cd1 ct1), sl1⟩)
    (c1 : PySem.W.codeIn K cd1 "InvalidSeat.__init__" = true)
    (k1 : PySem.W.keepIn K (.ref f1) = true)
    (a2 : PySem.W.findIn K (.ref C_InvalidCall) "__init__" = some (some (.ref f2)))
    (i2 : PySem.W.isFn K (.ref f2) = true)
    (l2 : K.lookup f2 = some ⟨oc2, od2, .func (PySem.W.fnOf "__init__" "InvalidCall.__init__" (defArgs s_InvalidCall_init) (defBody s_InvalidCall_init) (defScope s_InvalidCall_init) .none kV2 dc2 pm2 an2 cd2 ct2), sl2⟩)
    (c2 : PySem.W.codeIn K cd2 "InvalidCall.__init__" = true)
    (k2 : PySem.W.keepIn K (.ref f2) = true)
    (a3 : PySem.W.findIn K (.ref C_InvalidDirection) "__init__" = some (some (.ref f3)))
    (i3 : PySem.W.isFn K (.ref f3) = true)
    (l3 : K.lookup f3 = some ⟨oc3, od3, .func (PySem.W.fnOf "__init__" "InvalidDirection.__init__" (defArgs s_InvalidDirection_init) (defBody s_InvalidDirection_init) (defScope s_InvalidDirection_init) .none kV3 dc3 pm3 an3 cd3 ct3), sl3⟩)
    (c3 : PySem.W.codeIn K cd3 "InvalidDirection.__init__" = true)
    (k3 : PySem.W.keepIn K (.ref f3) = true)
    (a4 : PySem.W.nsIn K mainGlobals "is_integer" = some (some (.ref f4)))
    (l4 : K.lookup f4 = some ⟨oc4, od4, .func (PySem.W.fnOf "is_integer" "is_integer" (defArgs s_is_integer) (defBody s_is_integer) (defScope s_is_integer) .none kV4 dc4 pm4 an4 cd4 ct4), sl4⟩)
    (c4 : PySem.W.codeIn K cd4 "is_integer" = true)
    (k4 : PySem.W.keepIn K (.ref f4) = true)
    (a5 : PySem.W.nsIn K mainGlobals "is_at_least" = some (some (.ref f5)))
    (l5 : K.lookup f5 = some ⟨oc5, od5, .func (PySem.W.fnOf "is_at_least" "is_at_least" (defArgs s_is_at_least) (defBody s_is_at_least) (defScope s_is_at_least) .none kV5 dc5 pm5 an5 cd5 ct5), sl5⟩)
    (c5 : PySem.W.codeIn K cd5 "is_at_least" = true)
    (k5 : PySem.W.keepIn K (.ref f5) = true)
    (a6 : PySem.W.nsIn K mainGlobals "is_between" = some (some (.ref f6)))
    (l6 : K.lookup f6 = some ⟨oc6, od6, .func (PySem.W.fnOf "is_between" "is_between" (defArgs s_is_between) (defBody s_is_between) (defScope s_is_between) .none kV6 dc6 pm6 an6 cd6 ct6), sl6⟩)
    (c6 : PySem.W.codeIn K cd6 "is_between" = true)
    (k6 : PySem.W.keepIn K (.ref f6) = true)
    (a7 : PySem.W.nsIn K mainGlobals "greatest_common_divisor" = some (some (.ref f7)))
    (l7 : K.lookup f7 = some ⟨oc7, od7, .func (PySem.W.fnOf "greatest_common_divisor" "greatest_common_divisor" (defArgs s_greatest_common_divisor) (defBody s_greatest_common_divisor) (defScope s_greatest_common_divisor) .none kV7 dc7 pm7 an7 cd7 ct7), sl7⟩)
    (c7 : PySem.W.codeIn K cd7 "greatest_common_divisor" = true)
    (k7 : PySem.W.keepIn K (.ref f7) = true)
    (a8 : PySem.W.findIn K (.ref C_Table) "__init__" = some (some (.ref f8)))
    (i8 : PySem.W.isFn K (.ref f8) = true)
    (l8 : K.lookup f8 = some ⟨oc8, od8, .func (PySem.W.fnOf "__init__" "Table.__init__" (defArgs s_Table_init) (defBody s_Table_init) (defScope s_Table_init) .none kV8 dc8 pm8 an8 cd8 ct8), sl8⟩)
    (c8 : PySem.W.codeIn K cd8 "Table.__init__" = true)
    (k8 : PySem.W.keepIn K (.ref f8) = true)
    (a9 : PySem.W.findIn K (.ref C_Table) "sizes" = some (some (.ref f9)))
    (i9 : PySem.W.isFn K (.ref f9) = true)
    (l9 : K.lookup f9 = some ⟨oc9, od9, .func (PySem.W.fnOf "sizes" "Table.sizes" (defArgs s_Table_sizes) (defBody s_Table_sizes) (defScope s_Table_sizes) .none kV9 dc9 pm9 an9 cd9 ct9), sl9⟩)
    (c9 : PySem.W.codeIn K cd9 "Table.sizes" = true)
    (k9 : PySem.W.keepIn K (.ref f9) = true)
    (a10 : PySem.W.findIn K (.ref C_Table) "count" = some (some (.ref f10)))
    (i10 : PySem.W.isFn K (.ref f10) = true)
    (l10 : K.lookup f10 = some ⟨oc10, od10, .func (PySem.W.fnOf "count" "Table.count" (defArgs s_Table_count) (defBody s_Table_count) (defScope s_Table_count) .none kV10 dc10 pm10 an10 cd10 ct10), sl10⟩)
    (c10 : PySem.W.codeIn K cd10 "Table.count" = true)
    (k10 : PySem.W.keepIn K (.ref f10) = true)
    (a11 : PySem.W.findIn K (.ref C_Table) "is_seat" = some (some (.ref f11)))
    (i11 : PySem.W.isFn K (.ref f11) = true)
    (l11 : K.lookup f11 = some ⟨oc11, od11, .func (PySem.W.fnOf "is_seat" "Table.is_seat" (defArgs s_Table_is_seat) (defBody s_Table_is_seat) (defScope s_Table_is_seat) .none kV11 dc11 pm11 an11 cd11 ct11), sl11⟩)
    (c11 : PySem.W.codeIn K cd11 "Table.is_seat" = true)
    (k11 : PySem.W.keepIn K (.ref f11) = true)
    (a12 : PySem.W.findIn K (.ref C_Table) "is_call" = some (some (.ref f12)))
    (i12 : PySem.W.isFn K (.ref f12) = true)
    (l12 : K.lookup f12 = some ⟨oc12, od12, .func (PySem.W.fnOf "is_call" "Table.is_call" (defArgs s_Table_is_call) (defBody s_Table_is_call) (defScope s_Table_is_call) .none kV12 dc12 pm12 an12 cd12 ct12), sl12⟩)
    (c12 : PySem.W.codeIn K cd12 "Table.is_call" = true)
    (k12 : PySem.W.keepIn K (.ref f12) = true)
    (a13 : PySem.W.findIn K (.ref C_Table) "shifted" = some (some (.ref f13)))
    (i13 : PySem.W.isFn K (.ref f13) = true)
    (l13 : K.lookup f13 = some ⟨oc13, od13, .func (PySem.W.fnOf "shifted" "Table.shifted" (defArgs s_Table_shifted) (defBody s_Table_shifted) (defScope s_Table_shifted) .none kV13 dc13 pm13 an13 cd13 ct13), sl13⟩)
    (c13 : PySem.W.codeIn K cd13 "Table.shifted" = true)
    (k13 : PySem.W.keepIn K (.ref f13) = true)
    (a14 : PySem.W.findIn K (.ref C_Table) "moves" = some (some (.ref f14)))
    (i14 : PySem.W.isFn K (.ref f14) = true)
    (l14 : K.lookup f14 = some ⟨oc14, od14, .func (PySem.W.fnOf "moves" "Table.moves" (defArgs s_Table_moves) (defBody s_Table_moves) (defScope s_Table_moves) .none kV14 dc14 pm14 an14 cd14 ct14), sl14⟩)
    (c14 : PySem.W.codeIn K cd14 "Table.moves" = true)
    (k14 : PySem.W.keepIn K (.ref f14) = true)
    (a15 : PySem.W.findIn K (.ref C_Table) "step" = some (some (.ref f15)))
    (i15 : PySem.W.isFn K (.ref f15) = true)
    (l15 : K.lookup f15 = some ⟨oc15, od15, .func (PySem.W.fnOf "step" "Table.step" (defArgs s_Table_step) (defBody s_Table_step) (defScope s_Table_step) .none kV15 dc15 pm15 an15 cd15 ct15), sl15⟩)
    (c15 : PySem.W.codeIn K cd15 "Table.step" = true)
    (k15 : PySem.W.keepIn K (.ref f15) = true)
    (a16 : PySem.W.findIn K (.ref C_Table) "order" = some (some (.ref f16)))
    (i16 : PySem.W.isFn K (.ref f16) = true)
    (l16 : K.lookup f16 = some ⟨oc16, od16, .func (PySem.W.fnOf "order" "Table.order" (defArgs s_Table_order) (defBody s_Table_order) (defScope s_Table_order) .none kV16 dc16 pm16 an16 cd16 ct16), sl16⟩)
    (c16 : PySem.W.codeIn K cd16 "Table.order" = true)
    (k16 : PySem.W.keepIn K (.ref f16) = true)
    (a17 : PySem.W.findIn K (.ref C_Table) "halves" = some (some (.ref f17)))
    (i17 : PySem.W.isFn K (.ref f17) = true)
    (l17 : K.lookup f17 = some ⟨oc17, od17, .func (PySem.W.fnOf "halves" "Table.halves" (defArgs s_Table_halves) (defBody s_Table_halves) (defScope s_Table_halves) .none kV17 dc17 pm17 an17 cd17 ct17), sl17⟩)
    (c17 : PySem.W.codeIn K cd17 "Table.halves" = true)
    (k17 : PySem.W.keepIn K (.ref f17) = true)
    (a18 : PySem.W.nsIn K mainGlobals "half_places" = some (some (.ref f18)))
    (l18 : K.lookup f18 = some ⟨oc18, od18, .func (PySem.W.fnOf "half_places" "half_places" (defArgs s_half_places) (defBody s_half_places) (defScope s_half_places) .none kV18 dc18 pm18 an18 cd18 ct18), sl18⟩)
    (c18 : PySem.W.codeIn K cd18 "half_places" = true)
    (k18 : PySem.W.keepIn K (.ref f18) = true)
    (a19 : PySem.W.nsIn K mainGlobals "is_direction" = some (some (.ref f19)))
    (l19 : K.lookup f19 = some ⟨oc19, od19, .func (PySem.W.fnOf "is_direction" "is_direction" (defArgs s_is_direction) (defBody s_is_direction) (defScope s_is_direction) .none kV19 dc19 pm19 an19 cd19 ct19), sl19⟩)
    (c19 : PySem.W.codeIn K cd19 "is_direction" = true)
    (k19 : PySem.W.keepIn K (.ref f19) = true)
    (a20 : PySem.W.nsIn K mainGlobals "require_seat" = some (some (.ref f20)))
    (l20 : K.lookup f20 = some ⟨oc20, od20, .func (PySem.W.fnOf "require_seat" "require_seat" (defArgs s_require_seat) (defBody s_require_seat) (defScope s_require_seat) .none kV20 dc20 pm20 an20 cd20 ct20), sl20⟩)
    (c20 : PySem.W.codeIn K cd20 "require_seat" = true)
    (k20 : PySem.W.keepIn K (.ref f20) = true)
    (a21 : PySem.W.nsIn K mainGlobals "require_call" = some (some (.ref f21)))
    (l21 : K.lookup f21 = some ⟨oc21, od21, .func (PySem.W.fnOf "require_call" "require_call" (defArgs s_require_call) (defBody s_require_call) (defScope s_require_call) .none kV21 dc21 pm21 an21 cd21 ct21), sl21⟩)
    (c21 : PySem.W.codeIn K cd21 "require_call" = true)
    (k21 : PySem.W.keepIn K (.ref f21) = true)
    (a22 : PySem.W.nsIn K mainGlobals "_law_mixed" = some (some (.ref f22)))
    (l22 : K.lookup f22 = some ⟨oc22, od22, .func (PySem.W.fnOf "_law_mixed" "_law_mixed" (defArgs s_law_mixed) (defBody s_law_mixed) (defScope s_law_mixed) .none kV22 dc22 pm22 an22 cd22 ct22), sl22⟩)
    (c22 : PySem.W.codeIn K cd22 "_law_mixed" = true)
    (k22 : PySem.W.keepIn K (.ref f22) = true)
    (a23 : PySem.W.nsIn K mainGlobals "_law_source" = some (some (.ref f23)))
    (l23 : K.lookup f23 = some ⟨oc23, od23, .func (PySem.W.fnOf "_law_source" "_law_source" (defArgs s_law_source) (defBody s_law_source) (defScope s_law_source) .none kV23 dc23 pm23 an23 cd23 ct23), sl23⟩)
    (c23 : PySem.W.codeIn K cd23 "_law_source" = true)
    (k23 : PySem.W.keepIn K (.ref f23) = true)
    (a24 : PySem.W.nsIn K mainGlobals "_law_take" = some (some (.ref f24)))
    (l24 : K.lookup f24 = some ⟨oc24, od24, .func (PySem.W.fnOf "_law_take" "_law_take" (defArgs s_law_take) (defBody s_law_take) (defScope s_law_take) .none kV24 dc24 pm24 an24 cd24 ct24), sl24⟩)
    (c24 : PySem.W.codeIn K cd24 "_law_take" = true)
    (k24 : PySem.W.keepIn K (.ref f24) = true)
    (a25 : PySem.W.nsIn K mainGlobals "_law_big" = some (some (.ref f25)))
    (l25 : K.lookup f25 = some ⟨oc25, od25, .func (PySem.W.fnOf "_law_big" "_law_big" (defArgs s_law_big) (defBody s_law_big) (defScope s_law_big) .none kV25 dc25 pm25 an25 cd25 ct25), sl25⟩)
    (c25 : PySem.W.codeIn K cd25 "_law_big" = true)
    (k25 : PySem.W.keepIn K (.ref f25) = true)
    (a26 : PySem.W.nsIn K mainGlobals "_law_rings" = some (some (.ref f26)))
    (l26 : K.lookup f26 = some ⟨oc26, od26, .func (PySem.W.fnOf "_law_rings" "_law_rings" (defArgs s_law_rings) (defBody s_law_rings) (defScope s_law_rings) .none kV26 dc26 pm26 an26 cd26 ct26), sl26⟩)
    (c26 : PySem.W.codeIn K cd26 "_law_rings" = true)
    (k26 : PySem.W.keepIn K (.ref f26) = true)
    (a27 : PySem.W.nsIn K mainGlobals "_law_call" = some (some (.ref f27)))
    (l27 : K.lookup f27 = some ⟨oc27, od27, .func (PySem.W.fnOf "_law_call" "_law_call" (defArgs s_law_call) (defBody s_law_call) (defScope s_law_call) .none kV27 dc27 pm27 an27 cd27 ct27), sl27⟩)
    (c27 : PySem.W.codeIn K cd27 "_law_call" = true)
    (k27 : PySem.W.keepIn K (.ref f27) = true)
    (a28 : PySem.W.nsIn K mainGlobals "_law_odd_value" = some (some (.ref f28)))
    (l28 : K.lookup f28 = some ⟨oc28, od28, .func (PySem.W.fnOf "_law_odd_value" "_law_odd_value" (defArgs s_law_odd_value) (defBody s_law_odd_value) (defScope s_law_odd_value) .none kV28 dc28 pm28 an28 cd28 ct28), sl28⟩)
    (c28 : PySem.W.codeIn K cd28 "_law_odd_value" = true)
    (k28 : PySem.W.keepIn K (.ref f28) = true)
    (a29 : PySem.W.nsIn K mainGlobals "_law_raised" = some (some (.ref f29)))
    (l29 : K.lookup f29 = some ⟨oc29, od29, .func (PySem.W.fnOf "_law_raised" "_law_raised" (defArgs s_law_raised) (defBody s_law_raised) (defScope s_law_raised) .none kV29 dc29 pm29 an29 cd29 ct29), sl29⟩)
    (c29 : PySem.W.codeIn K cd29 "_law_raised" = true)
    (k29 : PySem.W.keepIn K (.ref f29) = true)
    (a30 : PySem.W.nsIn K mainGlobals "_law_bad_rings" = some (some (.ref f30)))
    (l30 : K.lookup f30 = some ⟨oc30, od30, .func (PySem.W.fnOf "_law_bad_rings" "_law_bad_rings" (defArgs s_law_bad_rings) (defBody s_law_bad_rings) (defScope s_law_bad_rings) .none kV30 dc30 pm30 an30 cd30 ct30), sl30⟩)
    (c30 : PySem.W.codeIn K cd30 "_law_bad_rings" = true)
    (k30 : PySem.W.keepIn K (.ref f30) = true)
    (a31 : PySem.W.nsIn K mainGlobals "_law_bad_seat" = some (some (.ref f31)))
    (l31 : K.lookup f31 = some ⟨oc31, od31, .func (PySem.W.fnOf "_law_bad_seat" "_law_bad_seat" (defArgs s_law_bad_seat) (defBody s_law_bad_seat) (defScope s_law_bad_seat) .none kV31 dc31 pm31 an31 cd31 ct31), sl31⟩)
    (c31 : PySem.W.codeIn K cd31 "_law_bad_seat" = true)
    (k31 : PySem.W.keepIn K (.ref f31) = true)
    (a32 : PySem.W.nsIn K mainGlobals "_law_bad_call" = some (some (.ref f32)))
    (l32 : K.lookup f32 = some ⟨oc32, od32, .func (PySem.W.fnOf "_law_bad_call" "_law_bad_call" (defArgs s_law_bad_call) (defBody s_law_bad_call) (defScope s_law_bad_call) .none kV32 dc32 pm32 an32 cd32 ct32), sl32⟩)
    (c32 : PySem.W.codeIn K cd32 "_law_bad_call" = true)
    (k32 : PySem.W.keepIn K (.ref f32) = true)
    (a33 : PySem.W.nsIn K mainGlobals "_law_check" = some (some (.ref f33)))
    (l33 : K.lookup f33 = some ⟨oc33, od33, .func (PySem.W.fnOf "_law_check" "_law_check" (defArgs s_law_check) (defBody s_law_check) (defScope s_law_check) .none kV33 dc33 pm33 an33 cd33 ct33), sl33⟩)
    (c33 : PySem.W.codeIn K cd33 "_law_check" = true)
    (k33 : PySem.W.keepIn K (.ref f33) = true)
    (a34 : PySem.W.nsIn K mainGlobals "_law_huge_values" = some (some (.ref f34)))
    (l34 : K.lookup f34 = some ⟨oc34, od34, .func (PySem.W.fnOf "_law_huge_values" "_law_huge_values" (defArgs s_law_huge_values) (defBody s_law_huge_values) (defScope s_law_huge_values) .none kV34 dc34 pm34 an34 cd34 ct34), sl34⟩)
    (c34 : PySem.W.codeIn K cd34 "_law_huge_values" = true)
    (k34 : PySem.W.keepIn K (.ref f34) = true)
    (a35 : PySem.W.nsIn K mainGlobals "law" = some (some (.ref f35)))
    (l35 : K.lookup f35 = some ⟨oc35, od35, .func (PySem.W.fnOf "law" "law" (defArgs s_law) (defBody s_law) (defScope s_law) .none kV35 dc35 pm35 an35 cd35 ct35), sl35⟩)
    (c35 : PySem.W.codeIn K cd35 "law" = true)
    (k35 : PySem.W.keepIn K (.ref f35) = true)
    (xl_InvalidTable : K.lookup C_InvalidTable = some (excClassObj nm_InvalidTable q_InvalidTable C_InvalidTable N_InvalidTable bs_InvalidTable [.ref B_InvalidTable, .type "ValueError", .type "Exception", .type "BaseException", .type "object"] true sn_InvalidTable sub_InvalidTable ab_InvalidTable col_InvalidTable dd_InvalidTable m0_InvalidTable m1_InvalidTable m2_InvalidTable m3_InvalidTable m5_InvalidTable "ValueError.__new__"))
    (sa_InvalidTable : PySem.W.findIn K (.ref C_InvalidTable) "__setattr__" = some (some (.builtin "object.__setattr__")))
    (ga_InvalidTable : PySem.W.findIn K (.ref C_InvalidTable) "__getattribute__" = some (some (.builtin "BaseException.__getattribute__")))
    (gg_InvalidTable : PySem.W.findIn K (.ref C_InvalidTable) "__getattr__" = some none)
    (ti_InvalidTable : PySem.W.typeIn K (.ref f0) = some (.type "function"))
    (kc_InvalidTable : PySem.W.keepIn K (.ref C_InvalidTable) = true)
    (ex_InvalidTable : PySem.W.subIn K (.ref C_InvalidTable) (.type "BaseException") = some true)
    (ty_InvalidTable : PySem.W.typeIn K (.ref C_InvalidTable) = some (.type "type"))
    (hd_InvalidTable : PySem.W.hasDictIn K C_InvalidTable = true)
    (il_InvalidTable : PySem.W.isClsIn K C_InvalidTable = true)
    (ss_InvalidTable : PySem.W.subIn K (.ref C_InvalidTable) (.ref C_InvalidTable) = some true)
    (ss_InvalidTable_SeatError : PySem.W.subIn K (.ref C_InvalidTable) (.ref C_SeatError) = some true)
    (n_InvalidTable_rings : PySem.W.findIn K (.ref C_InvalidTable) "rings" = some none)
    (xl_InvalidSeat : K.lookup C_InvalidSeat = some (excClassObj nm_InvalidSeat q_InvalidSeat C_InvalidSeat N_InvalidSeat bs_InvalidSeat [.ref B_InvalidSeat, .type "ValueError", .type "Exception", .type "BaseException", .type "object"] true sn_InvalidSeat sub_InvalidSeat ab_InvalidSeat col_InvalidSeat dd_InvalidSeat m0_InvalidSeat m1_InvalidSeat m2_InvalidSeat m3_InvalidSeat m5_InvalidSeat "ValueError.__new__"))
    (sa_InvalidSeat : PySem.W.findIn K (.ref C_InvalidSeat) "__setattr__" = some (some (.builtin "object.__setattr__")))
    (ga_InvalidSeat : PySem.W.findIn K (.ref C_InvalidSeat) "__getattribute__" = some (some (.builtin "BaseException.__getattribute__")))
    (gg_InvalidSeat : PySem.W.findIn K (.ref C_InvalidSeat) "__getattr__" = some none)
    (ti_InvalidSeat : PySem.W.typeIn K (.ref f1) = some (.type "function"))
    (kc_InvalidSeat : PySem.W.keepIn K (.ref C_InvalidSeat) = true)
    (ex_InvalidSeat : PySem.W.subIn K (.ref C_InvalidSeat) (.type "BaseException") = some true)
    (ty_InvalidSeat : PySem.W.typeIn K (.ref C_InvalidSeat) = some (.type "type"))
    (hd_InvalidSeat : PySem.W.hasDictIn K C_InvalidSeat = true)
    (il_InvalidSeat : PySem.W.isClsIn K C_InvalidSeat = true)
    (ss_InvalidSeat : PySem.W.subIn K (.ref C_InvalidSeat) (.ref C_InvalidSeat) = some true)
    (ss_InvalidSeat_SeatError : PySem.W.subIn K (.ref C_InvalidSeat) (.ref C_SeatError) = some true)
    (n_InvalidSeat_seat : PySem.W.findIn K (.ref C_InvalidSeat) "seat" = some none)
    (xl_InvalidCall : K.lookup C_InvalidCall = some (excClassObj nm_InvalidCall q_InvalidCall C_InvalidCall N_InvalidCall bs_InvalidCall [.ref B_InvalidCall, .type "ValueError", .type "Exception", .type "BaseException", .type "object"] true sn_InvalidCall sub_InvalidCall ab_InvalidCall col_InvalidCall dd_InvalidCall m0_InvalidCall m1_InvalidCall m2_InvalidCall m3_InvalidCall m5_InvalidCall "ValueError.__new__"))
    (sa_InvalidCall : PySem.W.findIn K (.ref C_InvalidCall) "__setattr__" = some (some (.builtin "object.__setattr__")))
    (ga_InvalidCall : PySem.W.findIn K (.ref C_InvalidCall) "__getattribute__" = some (some (.builtin "BaseException.__getattribute__")))
    (gg_InvalidCall : PySem.W.findIn K (.ref C_InvalidCall) "__getattr__" = some none)
    (ti_InvalidCall : PySem.W.typeIn K (.ref f2) = some (.type "function"))
    (kc_InvalidCall : PySem.W.keepIn K (.ref C_InvalidCall) = true)
    (ex_InvalidCall : PySem.W.subIn K (.ref C_InvalidCall) (.type "BaseException") = some true)
    (ty_InvalidCall : PySem.W.typeIn K (.ref C_InvalidCall) = some (.type "type"))
    (hd_InvalidCall : PySem.W.hasDictIn K C_InvalidCall = true)
    (il_InvalidCall : PySem.W.isClsIn K C_InvalidCall = true)
    (ss_InvalidCall : PySem.W.subIn K (.ref C_InvalidCall) (.ref C_InvalidCall) = some true)
    (ss_InvalidCall_SeatError : PySem.W.subIn K (.ref C_InvalidCall) (.ref C_SeatError) = some true)
    (n_InvalidCall_call : PySem.W.findIn K (.ref C_InvalidCall) "call" = some none)
    (xl_InvalidDirection : K.lookup C_InvalidDirection = some (excClassObj nm_InvalidDirection q_InvalidDirection C_InvalidDirection N_InvalidDirection bs_InvalidDirection [.ref B_InvalidDirection, .type "ValueError", .type "Exception", .type "BaseException", .type "object"] true sn_InvalidDirection sub_InvalidDirection ab_InvalidDirection col_InvalidDirection dd_InvalidDirection m0_InvalidDirection m1_InvalidDirection m2_InvalidDirection m3_InvalidDirection m5_InvalidDirection "ValueError.__new__"))
    (sa_InvalidDirection : PySem.W.findIn K (.ref C_InvalidDirection) "__setattr__" = some (some (.builtin "object.__setattr__")))
    (ga_InvalidDirection : PySem.W.findIn K (.ref C_InvalidDirection) "__getattribute__" = some (some (.builtin "BaseException.__getattribute__")))
    (gg_InvalidDirection : PySem.W.findIn K (.ref C_InvalidDirection) "__getattr__" = some none)
    (ti_InvalidDirection : PySem.W.typeIn K (.ref f3) = some (.type "function"))
    (kc_InvalidDirection : PySem.W.keepIn K (.ref C_InvalidDirection) = true)
    (ex_InvalidDirection : PySem.W.subIn K (.ref C_InvalidDirection) (.type "BaseException") = some true)
    (ty_InvalidDirection : PySem.W.typeIn K (.ref C_InvalidDirection) = some (.type "type"))
    (hd_InvalidDirection : PySem.W.hasDictIn K C_InvalidDirection = true)
    (il_InvalidDirection : PySem.W.isClsIn K C_InvalidDirection = true)
    (ss_InvalidDirection : PySem.W.subIn K (.ref C_InvalidDirection) (.ref C_InvalidDirection) = some true)
    (ss_InvalidDirection_SeatError : PySem.W.subIn K (.ref C_InvalidDirection) (.ref C_SeatError) = some true)
    (n_InvalidDirection_direction : PySem.W.findIn K (.ref C_InvalidDirection) "direction" = some none)
    (pg_Table : PySem.W.plainGet K C_Table Str.empty = true)
    (hd_Table : PySem.W.hasDictIn K C_Table = true)
    (po_Table : PySem.W.plainOver K C_Table = true)
    (sa_Table : PySem.W.findIn K (.ref C_Table) "__setattr__" = some (some (.builtin "object.__setattr__")))
    (mk_Table : PySem.W.makesIn K C_Table = true)
    (kc_Table : PySem.W.keepIn K (.ref C_Table) = true)
    (n_Table_rings : PySem.W.findIn K (.ref C_Table) "rings" = some none)
    (ig_ : PySem.W.specialIn K (.builtin "object.__class__") "__get__" = some (some (.builtin "getset_descriptor.__get__")))
    (it_ : PySem.W.takesIn K (.builtin "object.__class__") = some true)
    (ic_InvalidTable : PySem.W.findIn K (.ref C_InvalidTable) "__class__" = some (some (.builtin "object.__class__")))
    (im_InvalidTable : PySem.W.mroIn K C_InvalidTable (.type "object") = some true)
    (ic_InvalidSeat : PySem.W.findIn K (.ref C_InvalidSeat) "__class__" = some (some (.builtin "object.__class__")))
    (im_InvalidSeat : PySem.W.mroIn K C_InvalidSeat (.type "object") = some true)
    (ic_InvalidCall : PySem.W.findIn K (.ref C_InvalidCall) "__class__" = some (some (.builtin "object.__class__")))
    (im_InvalidCall : PySem.W.mroIn K C_InvalidCall (.type "object") = some true)
    (ic_InvalidDirection : PySem.W.findIn K (.ref C_InvalidDirection) "__class__" = some (some (.builtin "object.__class__")))
    (im_InvalidDirection : PySem.W.mroIn K C_InvalidDirection (.type "object") = some true)
    (ki_InvalidTable_InvalidSeat : PySem.W.kitAny K (.ref C_InvalidTable) [.ref C_InvalidSeat] = some false)
    (ki_InvalidTable_InvalidCall : PySem.W.kitAny K (.ref C_InvalidTable) [.ref C_InvalidCall] = some false)
    (ki_InvalidTable_InvalidDirection : PySem.W.kitAny K (.ref C_InvalidTable) [.ref C_InvalidDirection] = some false)
    (ki_InvalidTable_InvalidWitness : PySem.W.kitAny K (.ref C_InvalidTable) [.ref C_InvalidWitness] = some false)
    (ki_InvalidTable_InvalidTargets : PySem.W.kitAny K (.ref C_InvalidTable) [.ref C_InvalidTargets] = some false)
    (ki_InvalidTable_ValueError : PySem.W.kitAny K (.ref C_InvalidTable) [.type "ValueError"] = some true)
    (ki_InvalidSeat_InvalidTable : PySem.W.kitAny K (.ref C_InvalidSeat) [.ref C_InvalidTable] = some false)
    (ki_InvalidSeat_InvalidCall : PySem.W.kitAny K (.ref C_InvalidSeat) [.ref C_InvalidCall] = some false)
    (ki_InvalidSeat_InvalidDirection : PySem.W.kitAny K (.ref C_InvalidSeat) [.ref C_InvalidDirection] = some false)
    (ki_InvalidSeat_InvalidWitness : PySem.W.kitAny K (.ref C_InvalidSeat) [.ref C_InvalidWitness] = some false)
    (ki_InvalidSeat_InvalidTargets : PySem.W.kitAny K (.ref C_InvalidSeat) [.ref C_InvalidTargets] = some false)
    (ki_InvalidSeat_ValueError : PySem.W.kitAny K (.ref C_InvalidSeat) [.type "ValueError"] = some true)
    (ki_InvalidCall_InvalidTable : PySem.W.kitAny K (.ref C_InvalidCall) [.ref C_InvalidTable] = some false)
    (ki_InvalidCall_InvalidSeat : PySem.W.kitAny K (.ref C_InvalidCall) [.ref C_InvalidSeat] = some false)
    (ki_InvalidCall_InvalidDirection : PySem.W.kitAny K (.ref C_InvalidCall) [.ref C_InvalidDirection] = some false)
    (ki_InvalidCall_InvalidWitness : PySem.W.kitAny K (.ref C_InvalidCall) [.ref C_InvalidWitness] = some false)
    (ki_InvalidCall_InvalidTargets : PySem.W.kitAny K (.ref C_InvalidCall) [.ref C_InvalidTargets] = some false)
    (ki_InvalidCall_ValueError : PySem.W.kitAny K (.ref C_InvalidCall) [.type "ValueError"] = some true)
    (ki_InvalidDirection_InvalidTable : PySem.W.kitAny K (.ref C_InvalidDirection) [.ref C_InvalidTable] = some false)
    (ki_InvalidDirection_InvalidSeat : PySem.W.kitAny K (.ref C_InvalidDirection) [.ref C_InvalidSeat] = some false)
    (ki_InvalidDirection_InvalidCall : PySem.W.kitAny K (.ref C_InvalidDirection) [.ref C_InvalidCall] = some false)
    (ki_InvalidDirection_InvalidWitness : PySem.W.kitAny K (.ref C_InvalidDirection) [.ref C_InvalidWitness] = some false)
    (ki_InvalidDirection_InvalidTargets : PySem.W.kitAny K (.ref C_InvalidDirection) [.ref C_InvalidTargets] = some false)
    (ki_InvalidDirection_ValueError : PySem.W.kitAny K (.ref C_InvalidDirection) [.type "ValueError"] = some true)
    (v_MAX_RINGS : PySem.W.nsIn K mainGlobals "MAX_RINGS" = some (some (.int 4 t_MAX_RINGS)))
    (z_ValueError : PySem.W.nsIn K mainGlobals "ValueError" = some none)
    (z_abs : PySem.W.nsIn K mainGlobals "abs" = some none)
    (z_all : PySem.W.nsIn K mainGlobals "all" = some none)
    (z_bool : PySem.W.nsIn K mainGlobals "bool" = some none)
    (z_int : PySem.W.nsIn K mainGlobals "int" = some none)
    (z_isinstance : PySem.W.nsIn K mainGlobals "isinstance" = some none)
    (z_len : PySem.W.nsIn K mainGlobals "len" = some none)
    (z_list : PySem.W.nsIn K mainGlobals "list" = some none)
    (z_min : PySem.W.nsIn K mainGlobals "min" = some none)
    (z_range : PySem.W.nsIn K mainGlobals "range" = some none)
    (z_repr : PySem.W.nsIn K mainGlobals "repr" = some none)
    (z_str : PySem.W.nsIn K mainGlobals "str" = some none)
    (z_tuple : PySem.W.nsIn K mainGlobals "tuple" = some none)
    (z_zip : PySem.W.nsIn K mainGlobals "zip" = some none)
    : ∃ T : TX K mg, mg "law" = some (.ref T.f_law) ∧ ∀ (s : Shared) (v : Value), BindsTo s T.fd_law ⟨[v], []⟩ [("_law_script", v)] := by
  obtain ⟨T, h1, h2⟩ := all_mk X G aC_SeatError ex_SeatError ty_SeatError il_SeatError aC_InvalidWitness ex_InvalidWitness ty_InvalidWitness il_InvalidWitness aC_InvalidTargets ex_InvalidTargets ty_InvalidTargets il_InvalidTargets aC_InvalidTable aC_InvalidSeat aC_InvalidCall aC_InvalidDirection aC_Table a0 i0 l0 c0 k0 a1 i1 l1 c1 k1 a2 i2 l2 c2 k2 a3 i3 l3 c3 k3 a4 l4 c4 k4 a5 l5 c5 k5 a6 l6 c6 k6 a7 l7 c7 k7 a8 i8 l8 c8 k8 a9 i9 l9 c9 k9 a10 i10 l10 c10 k10 a11 i11 l11 c11 k11 a12 i12 l12 c12 k12 a13 i13 l13 c13 k13 a14 i14 l14 c14 k14 a15 i15 l15 c15 k15 a16 i16 l16 c16 k16 a17 i17 l17 c17 k17 a18 l18 c18 k18 a19 l19 c19 k19 a20 l20 c20 k20 a21 l21 c21 k21 a22 l22 c22 k22 a23 l23 c23 k23 a24 l24 c24 k24 a25 l25 c25 k25 a26 l26 c26 k26 a27 l27 c27 k27 a28 l28 c28 k28 a29 l29 c29 k29 a30 l30 c30 k30 a31 l31 c31 k31 a32 l32 c32 k32 a33 l33 c33 k33 a34 l34 c34 k34 a35 l35 c35 k35 xl_InvalidTable sa_InvalidTable ga_InvalidTable gg_InvalidTable ti_InvalidTable kc_InvalidTable ex_InvalidTable ty_InvalidTable hd_InvalidTable il_InvalidTable ss_InvalidTable ss_InvalidTable_SeatError n_InvalidTable_rings xl_InvalidSeat sa_InvalidSeat ga_InvalidSeat gg_InvalidSeat ti_InvalidSeat kc_InvalidSeat ex_InvalidSeat ty_InvalidSeat hd_InvalidSeat il_InvalidSeat ss_InvalidSeat ss_InvalidSeat_SeatError n_InvalidSeat_seat xl_InvalidCall sa_InvalidCall ga_InvalidCall gg_InvalidCall ti_InvalidCall kc_InvalidCall ex_InvalidCall ty_InvalidCall hd_InvalidCall il_InvalidCall ss_InvalidCall ss_InvalidCall_SeatError n_InvalidCall_call xl_InvalidDirection sa_InvalidDirection ga_InvalidDirection gg_InvalidDirection ti_InvalidDirection kc_InvalidDirection ex_InvalidDirection ty_InvalidDirection hd_InvalidDirection il_InvalidDirection ss_InvalidDirection ss_InvalidDirection_SeatError n_InvalidDirection_direction pg_Table hd_Table po_Table sa_Table mk_Table kc_Table n_Table_rings ig_ it_ ic_InvalidTable im_InvalidTable ic_InvalidSeat im_InvalidSeat ic_InvalidCall im_InvalidCall ic_InvalidDirection im_InvalidDirection ki_InvalidTable_InvalidSeat ki_InvalidTable_InvalidCall ki_InvalidTable_InvalidDirection ki_InvalidTable_InvalidWitness ki_InvalidTable_InvalidTargets ki_InvalidTable_ValueError ki_InvalidSeat_InvalidTable ki_InvalidSeat_InvalidCall ki_InvalidSeat_InvalidDirection ki_InvalidSeat_InvalidWitness ki_InvalidSeat_InvalidTargets ki_InvalidSeat_ValueError ki_InvalidCall_InvalidTable ki_InvalidCall_InvalidSeat ki_InvalidCall_InvalidDirection ki_InvalidCall_InvalidWitness ki_InvalidCall_InvalidTargets ki_InvalidCall_ValueError ki_InvalidDirection_InvalidTable ki_InvalidDirection_InvalidSeat ki_InvalidDirection_InvalidCall ki_InvalidDirection_InvalidWitness ki_InvalidDirection_InvalidTargets ki_InvalidDirection_ValueError v_MAX_RINGS z_ValueError z_abs z_all z_bool z_int z_isinstance z_len z_list z_min z_range z_repr z_str z_tuple z_zip
  exact ⟨T, T.m_law, fun s v => by rw [h2]; exact .of_eq rfl⟩
end CS
open PySem PySem.W PyProof.Rows in
set_option maxRecDepth 100000 in
set_option maxHeartbeats 0 in
theorem PySem.Challenge.cw_calledseats_k03_invalid_tables_and_moves_holds : PySem.Challenge.rw_calledseats_k03_invalid_tables_and_moves.Holds := by
  w_on; o_law; k_head; (case hw => w_witness2)
  k_fill
  refine CG.walk_ofGT (l := PySem.Challenge.rw_calledseats_k03_invalid_tables_and_moves) (n := 63) (k := 10) (x := "_law_script") rfl (by decide) rfl ⟨rfl, by decide, by decide⟩ ?F
  case F =>
    intro w mg fa h Y G hmg tabs seer
    have KX := PySem.W.km_in_of Y
    obtain ⟨T, e1, e2⟩ : ∃ T : CS.TX _ mg, mg "law" = some (.ref T.f_law) ∧ ∀ (s : Shared) (v : Value), BindsTo s T.fd_law ⟨[v], []⟩ [("_law_script", v)] := by
      refine' CS.use_mk KX G ?aC_SeatError ?ex_SeatError ?ty_SeatError ?il_SeatError ?aC_InvalidWitness ?ex_InvalidWitness ?ty_InvalidWitness ?il_InvalidWitness ?aC_InvalidTargets ?ex_InvalidTargets ?ty_InvalidTargets ?il_InvalidTargets ?aC_InvalidTable ?aC_InvalidSeat ?aC_InvalidCall ?aC_InvalidDirection ?aC_Table ?a0 ?i0 ?l0 ?c0 ?k0 ?a1 ?i1 ?l1 ?c1 ?k1 ?a2 ?i2 ?l2 ?c2 ?k2 ?a3 ?i3 ?l3 ?c3 ?k3 ?a4 ?l4 ?c4 ?k4 ?a5 ?l5 ?c5 ?k5 ?a6 ?l6 ?c6 ?k6 ?a7 ?l7 ?c7 ?k7 ?a8 ?i8 ?l8 ?c8 ?k8 ?a9 ?i9 ?l9 ?c9 ?k9 ?a10 ?i10 ?l10 ?c10 ?k10 ?a11 ?i11 ?l11 ?c11 ?k11 ?a12 ?i12 ?l12 ?c12 ?k12 ?a13 ?i13 ?l13 ?c13 ?k13 ?a14 ?i14 ?l14 ?c14 ?k14 ?a15 ?i15 ?l15 ?c15 ?k15 ?a16 ?i16 ?l16 ?c16 ?k16 ?a17 ?i17 ?l17 ?c17 ?k17 ?a18 ?l18 ?c18 ?k18 ?a19 ?l19 ?c19 ?k19 ?a20 ?l20 ?c20 ?k20 ?a21 ?l21 ?c21 ?k21 ?a22 ?l22 ?c22 ?k22 ?a23 ?l23 ?c23 ?k23 ?a24 ?l24 ?c24 ?k24 ?a25 ?l25 ?c25 ?k25 ?a26 ?l26 ?c26 ?k26 ?a27 ?l27 ?c27 ?k27 ?a28 ?l28 ?c28 ?k28 ?a29 ?l29 ?c29 ?k29 ?a30 ?l30 ?c30 ?k30 ?a31 ?l31 ?c31 ?k31 ?a32 ?l32 ?c32 ?k32 ?a33 ?l33 ?c33 ?k33 ?a34 ?l34 ?c34 ?k34 ?a35 ?l35 ?c35 ?k35 ?xl_InvalidTable ?sa_InvalidTable ?ga_InvalidTable ?gg_InvalidTable ?ti_InvalidTable ?kc_InvalidTable ?ex_InvalidTable ?ty_InvalidTable ?hd_InvalidTable ?il_InvalidTable ?ss_InvalidTable ?ss_InvalidTable_SeatError ?n_InvalidTable_rings ?xl_InvalidSeat ?sa_InvalidSeat ?ga_InvalidSeat ?gg_InvalidSeat ?ti_InvalidSeat ?kc_InvalidSeat ?ex_InvalidSeat ?ty_InvalidSeat ?hd_InvalidSeat ?il_InvalidSeat ?ss_InvalidSeat ?ss_InvalidSeat_SeatError ?n_InvalidSeat_seat ?xl_InvalidCall ?sa_InvalidCall ?ga_InvalidCall ?gg_InvalidCall ?ti_InvalidCall ?kc_InvalidCall ?ex_InvalidCall ?ty_InvalidCall ?hd_InvalidCall ?il_InvalidCall ?ss_InvalidCall ?ss_InvalidCall_SeatError ?n_InvalidCall_call ?xl_InvalidDirection ?sa_InvalidDirection ?ga_InvalidDirection ?gg_InvalidDirection ?ti_InvalidDirection ?kc_InvalidDirection ?ex_InvalidDirection ?ty_InvalidDirection ?hd_InvalidDirection ?il_InvalidDirection ?ss_InvalidDirection ?ss_InvalidDirection_SeatError ?n_InvalidDirection_direction ?pg_Table ?hd_Table ?po_Table ?sa_Table ?mk_Table ?kc_Table ?n_Table_rings ?ig_ ?it_ ?ic_InvalidTable ?im_InvalidTable ?ic_InvalidSeat ?im_InvalidSeat ?ic_InvalidCall ?im_InvalidCall ?ic_InvalidDirection ?im_InvalidDirection ?ki_InvalidTable_InvalidSeat ?ki_InvalidTable_InvalidCall ?ki_InvalidTable_InvalidDirection ?ki_InvalidTable_InvalidWitness ?ki_InvalidTable_InvalidTargets ?ki_InvalidTable_ValueError ?ki_InvalidSeat_InvalidTable ?ki_InvalidSeat_InvalidCall ?ki_InvalidSeat_InvalidDirection ?ki_InvalidSeat_InvalidWitness ?ki_InvalidSeat_InvalidTargets ?ki_InvalidSeat_ValueError ?ki_InvalidCall_InvalidTable ?ki_InvalidCall_InvalidSeat ?ki_InvalidCall_InvalidDirection ?ki_InvalidCall_InvalidWitness ?ki_InvalidCall_InvalidTargets ?ki_InvalidCall_ValueError ?ki_InvalidDirection_InvalidTable ?ki_InvalidDirection_InvalidSeat ?ki_InvalidDirection_InvalidCall ?ki_InvalidDirection_InvalidWitness ?ki_InvalidDirection_InvalidTargets ?ki_InvalidDirection_ValueError ?v_MAX_RINGS ?z_ValueError ?z_abs ?z_all ?z_bool ?z_int ?z_isinstance ?z_len ?z_list ?z_min ?z_range ?z_repr ?z_str ?z_tuple ?z_zip
      (case aC_SeatError => k_is)
      (case ex_SeatError => k_is)
      (case ty_SeatError => k_is)
      (case il_SeatError => k_is)
      (case aC_InvalidWitness => k_is)
      (case ex_InvalidWitness => k_is)
      (case ty_InvalidWitness => k_is)
      (case il_InvalidWitness => k_is)
      (case aC_InvalidTargets => k_is)
      (case ex_InvalidTargets => k_is)
      (case ty_InvalidTargets => k_is)
      (case il_InvalidTargets => k_is)
      (case aC_InvalidTable => k_is)
      (case aC_InvalidSeat => k_is)
      (case aC_InvalidCall => k_is)
      (case aC_InvalidDirection => k_is)
      (case aC_Table => k_is)
      (case a0 => k_is)
      (case i0 => k_is)
      (case l0 => k_is)
      (case c0 => k_is)
      (case k0 => k_is)
      (case a1 => k_is)
      (case i1 => k_is)
      (case l1 => k_is)
      (case c1 => k_is)
      (case k1 => k_is)
      (case a2 => k_is)
      (case i2 => k_is)
      (case l2 => k_is)
      (case c2 => k_is)
      (case k2 => k_is)
      (case a3 => k_is)
      (case i3 => k_is)
      (case l3 => k_is)
      (case c3 => k_is)
      (case k3 => k_is)
      (case a4 => k_is)
      (case l4 => k_is)
      (case c4 => k_is)
      (case k4 => k_is)
      (case a5 => k_is)
      (case l5 => k_is)
      (case c5 => k_is)
      (case k5 => k_is)
      (case a6 => k_is)
      (case l6 => k_is)
      (case c6 => k_is)
      (case k6 => k_is)
      (case a7 => k_is)
      (case l7 => k_is)
      (case c7 => k_is)
      (case k7 => k_is)
      (case a8 => k_is)
      (case i8 => k_is)
      (case l8 => k_is)
      (case c8 => k_is)
      (case k8 => k_is)
      (case a9 => k_is)
      (case i9 => k_is)
      (case l9 => k_is)
      (case c9 => k_is)
      (case k9 => k_is)
      (case a10 => k_is)
      (case i10 => k_is)
      (case l10 => k_is)
      (case c10 => k_is)
      (case k10 => k_is)
      (case a11 => k_is)
      (case i11 => k_is)
      (case l11 => k_is)
      (case c11 => k_is)
      (case k11 => k_is)
      (case a12 => k_is)
      (case i12 => k_is)
      (case l12 => k_is)
      (case c12 => k_is)
      (case k12 => k_is)
      (case a13 => k_is)
      (case i13 => k_is)
      (case l13 => k_is)
      (case c13 => k_is)
      (case k13 => k_is)
      (case a14 => k_is)
      (case i14 => k_is)
      (case l14 => k_is)
      (case c14 => k_is)
      (case k14 => k_is)
      (case a15 => k_is)
      (case i15 => k_is)
      (case l15 => k_is)
      (case c15 => k_is)
      (case k15 => k_is)
      (case a16 => k_is)
      (case i16 => k_is)
      (case l16 => k_is)
      (case c16 => k_is)
      (case k16 => k_is)
      (case a17 => k_is)
      (case i17 => k_is)
      (case l17 => k_is)
      (case c17 => k_is)
      (case k17 => k_is)
      (case a18 => k_is)
      (case l18 => k_is)
      (case c18 => k_is)
      (case k18 => k_is)
      (case a19 => k_is)
      (case l19 => k_is)
      (case c19 => k_is)
      (case k19 => k_is)
      (case a20 => k_is)
      (case l20 => k_is)
      (case c20 => k_is)
      (case k20 => k_is)
      (case a21 => k_is)
      (case l21 => k_is)
      (case c21 => k_is)
      (case k21 => k_is)
      (case a22 => k_is)
      (case l22 => k_is)
      (case c22 => k_is)
      (case k22 => k_is)
      (case a23 => k_is)
      (case l23 => k_is)
      (case c23 => k_is)
      (case k23 => k_is)
      (case a24 => k_is)
      (case l24 => k_is)
      (case c24 => k_is)
      (case k24 => k_is)
      (case a25 => k_is)
      (case l25 => k_is)
      (case c25 => k_is)
      (case k25 => k_is)
      (case a26 => k_is)
      (case l26 => k_is)
      (case c26 => k_is)
      (case k26 => k_is)
      (case a27 => k_is)
      (case l27 => k_is)
      (case c27 => k_is)
      (case k27 => k_is)
      (case a28 => k_is)
      (case l28 => k_is)
      (case c28 => k_is)
      (case k28 => k_is)
      (case a29 => k_is)
      (case l29 => k_is)
      (case c29 => k_is)
      (case k29 => k_is)
      (case a30 => k_is)
      (case l30 => k_is)
      (case c30 => k_is)
      (case k30 => k_is)
      (case a31 => k_is)
      (case l31 => k_is)
      (case c31 => k_is)
      (case k31 => k_is)
      (case a32 => k_is)
      (case l32 => k_is)
      (case c32 => k_is)
      (case k32 => k_is)
      (case a33 => k_is)
      (case l33 => k_is)
      (case c33 => k_is)
      (case k33 => k_is)
      (case a34 => k_is)
      (case l34 => k_is)
      (case c34 => k_is)
      (case k34 => k_is)
      (case a35 => k_is)
      (case l35 => k_is)
      (case c35 => k_is)
      (case k35 => k_is)
      (case xl_InvalidTable => k_is)
      (case sa_InvalidTable => k_is)
      (case ga_InvalidTable => k_is)
      (case gg_InvalidTable => k_is)
      (case ti_InvalidTable => k_is)
      (case kc_InvalidTable => k_is)
      (case ex_InvalidTable => k_is)
      (case ty_InvalidTable => k_is)
      (case hd_InvalidTable => k_is)
      (case il_InvalidTable => k_is)
      (case ss_InvalidTable => k_is)
      (case ss_InvalidTable_SeatError => k_is)
      (case n_InvalidTable_rings => k_is)
      (case xl_InvalidSeat => k_is)
      (case sa_InvalidSeat => k_is)
      (case ga_InvalidSeat => k_is)
      (case gg_InvalidSeat => k_is)
      (case ti_InvalidSeat => k_is)
      (case kc_InvalidSeat => k_is)
      (case ex_InvalidSeat => k_is)
      (case ty_InvalidSeat => k_is)
      (case hd_InvalidSeat => k_is)
      (case il_InvalidSeat => k_is)
      (case ss_InvalidSeat => k_is)
      (case ss_InvalidSeat_SeatError => k_is)
      (case n_InvalidSeat_seat => k_is)
      (case xl_InvalidCall => k_is)
      (case sa_InvalidCall => k_is)
      (case ga_InvalidCall => k_is)
      (case gg_InvalidCall => k_is)
      (case ti_InvalidCall => k_is)
      (case kc_InvalidCall => k_is)
      (case ex_InvalidCall => k_is)
      (case ty_InvalidCall => k_is)
      (case hd_InvalidCall => k_is)
      (case il_InvalidCall => k_is)
      (case ss_InvalidCall => k_is)
      (case ss_InvalidCall_SeatError => k_is)
      (case n_InvalidCall_call => k_is)
      (case xl_InvalidDirection => k_is)
      (case sa_InvalidDirection => k_is)
      (case ga_InvalidDirection => k_is)
      (case gg_InvalidDirection => k_is)
      (case ti_InvalidDirection => k_is)
      (case kc_InvalidDirection => k_is)
      (case ex_InvalidDirection => k_is)
      (case ty_InvalidDirection => k_is)
      (case hd_InvalidDirection => k_is)
      (case il_InvalidDirection => k_is)
      (case ss_InvalidDirection => k_is)
      (case ss_InvalidDirection_SeatError => k_is)
      (case n_InvalidDirection_direction => k_is)
      (case pg_Table => k_is)
      (case hd_Table => k_is)
      (case po_Table => k_is)
      (case sa_Table => k_is)
      (case mk_Table => k_is)
      (case kc_Table => k_is)
      (case n_Table_rings => k_is)
      (case ig_ => k_is)
      (case it_ => k_is)
      (case ic_InvalidTable => k_is)
      (case im_InvalidTable => k_is)
      (case ic_InvalidSeat => k_is)
      (case im_InvalidSeat => k_is)
      (case ic_InvalidCall => k_is)
      (case im_InvalidCall => k_is)
      (case ic_InvalidDirection => k_is)
      (case im_InvalidDirection => k_is)
      (case ki_InvalidTable_InvalidSeat => kit_is)
      (case ki_InvalidTable_InvalidCall => kit_is)
      (case ki_InvalidTable_InvalidDirection => kit_is)
      (case ki_InvalidTable_InvalidWitness => kit_is)
      (case ki_InvalidTable_InvalidTargets => kit_is)
      (case ki_InvalidTable_ValueError => kit_is)
      (case ki_InvalidSeat_InvalidTable => kit_is)
      (case ki_InvalidSeat_InvalidCall => kit_is)
      (case ki_InvalidSeat_InvalidDirection => kit_is)
      (case ki_InvalidSeat_InvalidWitness => kit_is)
      (case ki_InvalidSeat_InvalidTargets => kit_is)
      (case ki_InvalidSeat_ValueError => kit_is)
      (case ki_InvalidCall_InvalidTable => kit_is)
      (case ki_InvalidCall_InvalidSeat => kit_is)
      (case ki_InvalidCall_InvalidDirection => kit_is)
      (case ki_InvalidCall_InvalidWitness => kit_is)
      (case ki_InvalidCall_InvalidTargets => kit_is)
      (case ki_InvalidCall_ValueError => kit_is)
      (case ki_InvalidDirection_InvalidTable => kit_is)
      (case ki_InvalidDirection_InvalidSeat => kit_is)
      (case ki_InvalidDirection_InvalidCall => kit_is)
      (case ki_InvalidDirection_InvalidWitness => kit_is)
      (case ki_InvalidDirection_InvalidTargets => kit_is)
      (case ki_InvalidDirection_ValueError => kit_is)
      (case v_MAX_RINGS => k_is)
      (case z_ValueError => k_is)
      (case z_abs => k_is)
      (case z_all => k_is)
      (case z_bool => k_is)
      (case z_int => k_is)
      (case z_isinstance => k_is)
      (case z_len => k_is)
      (case z_list => k_is)
      (case z_min => k_is)
      (case z_range => k_is)
      (case z_repr => k_is)
      (case z_str => k_is)
      (case z_tuple => k_is)
      (case z_zip => k_is)
    have e := hmg.symm.trans e1
    cases e
    obtain ⟨c0, p0, a0, d0, z0⟩ := CG.TabAt.at (CG.tab_by tabs (x := "_law_check") (by decide +kernel)) KX T.m_law_check T.F_law_check
    refine ⟨_, T.fd_law, CS.sp_law _ p0, [(c0, p0)], KX, (fun p hp => by simp only [List.mem_cons, List.not_mem_nil, or_false] at hp; rcases hp with rfl <;> first | exact z0), ?nt, (fun p hp => by simp only [List.mem_cons, List.not_mem_nil, or_false] at hp; rcases hp with rfl <;> first | exact d0), e2, (fun H a ns hl hT hS => ⟨a, ns, rfl, hS, hl, hT _ (.head _), fun _ => rfl⟩), fun base _ _ TB NS => CS.ok_law T ⟨c0, p0, a0, TB _ (.head _), (seer (by decide +kernel)).mods.elim fun m e => ⟨m, NS _ _ e.1⟩⟩⟩
    intro p hp
    refine CG.noTab_at KX (by kernel_rfl) ?_
    simp only [List.mem_cons, List.not_mem_nil, or_false] at hp; rcases hp with rfl <;> first | exact z0
