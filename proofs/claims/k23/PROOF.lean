import PyProof.Rows.All
import Wide.All
import OpenK.AllK
import Wide.FinOn
import HandS.ForMost
import HandS.Zip
import HandS.TupAny
import HandS.TupMul
import HandS.Deep
import HandS.Style
import HandS.SetFor
import HandS.Strs
import HandS.Walk
import HandS.IsInst
import HandS.Conv
import HandS.Wide
import HandS.WideBits
import HandS.Evl
import HandS.MakeKwOnly
import KE.GoesMore
import KE.GoesEnumKw
import KE.KBits
import KE.SortData
import HandS.TupSets
import KE.KExcIs
import HandS.ExcInit
import HandS.ExcField
import HandS.ExcOwn
import HandS.WordsExc
import HandS.Lambda
import KE.KLam
import HandS.DictComp
import HandS.DictTup
import HandS.TupLen
import KE.KDictCopyH
import KE.KDictWalk
import KE.KDictKeyed
import PyProof.WalkInts
import PyProof.SeqI3
import HandS.TryOnly
import HandS.ExcInit
import HandS.ExcField
import HandS.ExcOwn
import HandS.WordsExc
import KE.RegKIsAll
import PySem.Challenge.RW_calledseats_k23_plans_by_others_checked
set_option Elab.async false
set_option linter.all false
set_option maxRecDepth 100000
set_option maxHeartbeats 4000000


namespace CZ
open PySem PySem.Spec PyProof.Rows L2
open PySem.Sem (wp)
/-- one draw of a zip: strict or not -/
def zdraw (b : Bool) (it : Value) : Sem (Option Value) := if b = true then Builtin.SmallTypes.nextOrEnd it else (Builtin.SmallTypes.nextOf it >>= fun x => pure (some x))
/-- a zip object: f0 what it has handed out, b its strictness -/
abbrev ZipO (h : Heap) (z TI TO : Addr) (f0 : Value) (b : Bool) : Prop := h.get? z = some { cls := .type "zip", data := .fields #[f0, .bool false, .bool b, .ref TI, .ref TO] }
abbrev TupO (h : Heap) (T : Addr) (vs : Array Value) : Prop := h.get? T = some { cls := .type "tuple", data := .seq vs }
theorem val_b (b : Bool) : (Value.bool b == Value.bool true) = b := by cases b <;> rfl
section
variable {prog : Program} {w : World} {A : Around} {E : Value → Shared → Prop} {s : Shared} {b : Bool}
theorem zdraw_item {it : Addr} {fp : List Addr} {n i : Nat} {P : Nat → Value → Prop} {St : Nat → Heap → Prop} {Q : Option Value → Shared → Prop} (D : Draws prog w A it fp n P St) (hi : i < n) (st : St i s.heap)
    (hQ : ∀ x h' tk, P i x → St (i + 1) h' → Heap.SameBut it s.heap h' → Q (some x) { s with heap := h', toks := tk }) : wpAny (model prog w) A (zdraw b (.ref it)) Q E s := by
  cases b with
  | false => exact wpAny_bind (m := Builtin.SmallTypes.nextOf (.ref it)) (D.item i s _ _ hi st fun x h' tk p st' sb => wpAny_pure (hQ x h' tk p st' sb))
  | true =>
    show wpAny _ _ (Builtin.SmallTypes.nextOrEnd (.ref it)) _ _ _
    unfold Builtin.SmallTypes.nextOrEnd
    exact wpAny_bind (wpAny_attempt (D.item i s _ _ hi st fun x h' tk p st' sb => wpAny_pure (hQ x h' tk p st' sb)))
theorem zend_strict {it : Addr} {fp : List Addr} {n : Nat} {P : Nat → Value → Prop} {St : Nat → Heap → Prop} {Q : Option Value → Shared → Prop} (D : Draws prog w A it fp n P St) (st : St n s.heap)
    (hQ : ∀ h', Heap.ExtBut it s.heap h' → Q none { s with heap := h' }) : wpAny (model prog w) A (Builtin.SmallTypes.nextOrEnd (.ref it)) Q E s := by
  unfold Builtin.SmallTypes.nextOrEnd
  refine wpAny_bind (wpAny_attempt (D.done s _ _ st fun h' e eb he => ?_))
  obtain ⟨o, ho, hc⟩ := he
  exact wpAny_bind (wpAny_isInstance (T := "StopIteration") (b := true) ⟨o, ho, hc⟩ isSubtype_stop (wpAny_pure (hQ h' eb)))
theorem upd_tup {T : Addr} {vs : Array Value} {x : Value} {k : Nat} {Q : Unit → Shared → Prop} (hT : TupO s.heap T vs) (hz : vs.size ≤ 8)
    (h : ∀ h', TupO h' T (vs.setIfInBounds k x) → Heap.SameBut T s.heap h' → Q () { s with heap := h' }) : wpAny (model prog w) A (updateSeq T (·.setIfInBounds k x)) Q E s := by
  have z8 : (8 : Nat) ≤ sizeLine := by decide
  refine wpAny_updateSeq hT rfl (h _ ?_ (Heap.SameBut.update ..)) (Nat.le_trans hz z8) (by rw [Array.size_setIfInBounds]; exact Nat.le_succ_of_le (Nat.le_trans hz z8))
  unfold TupO
  rw [Heap.get?_update_self _ hT rfl]
  simp [Obj.mapSeq]
theorem iter_zip {z TI TO : Addr} {f0 : Value} {Q : Value → Shared → Prop} (hz : ZipO s.heap z TI TO f0 b) (h : Q (.ref z) s) : wpAny (model prog w) A (pyIter (.ref z)) Q E s := by
  have hT : s.TypeIs (.ref z) "zip" := ⟨_, hz, rfl⟩
  exact wpAny_pyIter_slot hT F.slot_zip_iter (wpAny_call_entry F.slot_zip_iter hT F.entry_zip_iter (wpAny_pure ⟨_, rfl, "zip", _, hT, F.slot_zip_next.lookup, h⟩) (F.args_zip_iter_1 _))
/-- the tuple that was handed out is let go -/
theorem go_zip {elts : List Expr} {x1} {pos : Pos} {z TI TO T : Addr} {Q : Unit → Shared → Prop} (hz : ZipO s.heap z TI TO (rawInt T) b)
    (hQ : ∀ h', ZipO h' z TI TO .none b → Heap.SameBut z s.heap h' → Q () { s with heap := h' }) : wpAny (model prog w) A (letOwnedTupleGo (.Tuple elts x1 pos) (.ref z) (.ref T)) Q E s := by
  unfold letOwnedTupleGo
  refine wpAny_bind (wpAny_load hz ?_)
  show wpAny _ _ (ite _ _ _) Q E s
  rw [if_pos (by simp)]
  exact wpAny_bind (wpAny_rule (wpAny_setField_rec hz (by simp) fun h' hz' hs' => hQ h' hz' hs'))
/-- the StopIteration that a zip ends by -/
theorem stop_it {Q : Fin → Shared → Prop} (hh : A.handled = none) (hE : ∀ h' e, (∀ c o, s.heap.get? c = some o → h'.get? c = some o) → (∃ o, h'.get? e = some o ∧ o.cls = .type "StopIteration") → E (.ref e) { s with heap := h' }) :
    wpAny (model prog w) A (PySem.Builtin.SmallTypes.stopIteration : Sem Fin) Q E s := by
  unfold PySem.Builtin.SmallTypes.stopIteration
  show wpAny _ _ (newExc (.type "StopIteration") [] >>= _) _ _ _
  refine wpAny_bind ?_
  simp only [newExc, newTuple]
  refine wpAny_bind (wpAny_newObj_type ?_ (by size_fits))
  refine wpAny_bind (m := firstArgMember _ _) (wpAny_of_eq (a := Value.none) (by first | rfl | (simp only [firstArgMember]; rfl)) ?_)
  refine wpAny_newObj_type ?_ (by size_fits)
  simp only [raiseNew]
  refine wpAny_bind (wpAny_handled ?_)
  rw [hh]
  exact wpAny_bind (wpAny_pure (wpAny_throw (hE _ _ (fun c o e => Heap.get?_push_of_some _ (Heap.get?_push_of_some _ e)) ⟨_, Heap.get?_push_size _ rfl, rfl⟩)))
end
end CZ

namespace CZ
open PySem PySem.Spec PyProof.Rows L2
open PySem.Sem (wp)
/-- the cells of a zip over 2 iterators lie apart -/
structure Sep2 (z TI TO i1 i2 : Addr) (fp1 fp2 : List Addr) : Prop where
  zTO : z ≠ TO
  zTI : z ≠ TI
  TOTI : TO ≠ TI
  m1 : i1 ∈ fp1
  z1 : z ∉ fp1
  T1 : TO ∉ fp1
  I1 : TI ≠ i1
  s2_1 : i2 ∉ fp1
  m2 : i2 ∈ fp2
  z2 : z ∉ fp2
  T2 : TO ∉ fp2
  I2 : TI ≠ i2
  s1_2 : i1 ∉ fp2
section
variable {prog : Program} {w : World} {A : Around} {E : Value → Shared → Prop} {s : Shared} {b : Bool}
theorem next_item2 {z TI TO i1 i2 : Addr} {fp1 fp2 : List Addr} {n1 n2 i : Nat} {P1 P2 : Nat → Value → Prop} {St1 St2 : Nat → Heap → Prop} {a1 a2 : Value} {Q : Value → Shared → Prop} (S : Sep2 z TI TO i1 i2 fp1 fp2) (D1 : Draws prog w A i1 fp1 n1 P1 St1) (D2 : Draws prog w A i2 fp2 n2 P2 St2)
    (hz : ZipO s.heap z TI TO .none b) (hTI : TupO s.heap TI #[.ref i1, .ref i2]) (hTO : TupO s.heap TO #[a1, a2]) (st1 : St1 i s.heap) (st2 : St2 i s.heap) (hi1 : i < n1) (hi2 : i < n2)
    (hQ : ∀ x1 x2 h' tk, P1 i x1 → P2 i x2 → ZipO h' z TI TO (rawInt s.heap.objs.size) b → TupO h' TO #[x1, x2] → St1 (i + 1) h' → St2 (i + 1) h' → TupO h' s.heap.objs.size #[x1, x2] →
      (∀ c o, c ≠ z → c ≠ TO → c ≠ i1 → c ≠ i2 → s.heap.get? c = some o → h'.get? c = some o) → Q (.ref s.heap.objs.size) { s with heap := h', toks := tk }) :
    wpAny (model prog w) A (Builtin.«zip.__next__» ⟨[.ref z], []⟩) (fun fin s' => ∃ v, fin = .done (.ret v) ∧ Q v s') E s := by
  obtain ⟨hp, g, d, tk0, os⟩ := s
  refine wpAny_bind (m := field (.ref z) 2) (wpAny_field hz rfl (x := .bool b) rfl ?_)
  refine wpAny_bind (m := field (.ref z) 3) (wpAny_field hz rfl (x := .ref TI) rfl ?_)
  refine wpAny_bind (wpAny_seqItems hTI rfl ?_)
  show wpAny _ _ (Builtin.SmallTypes.ownedTupleIsFree (.ref z) >>= _) _ _ _
  rw [val_b]
  refine wpAny_bind ?_
  unfold Builtin.SmallTypes.ownedTupleIsFree
  refine wpAny_bind (wpAny_field hz rfl (x := .none) rfl (wpAny_pure ?_))
  simp only [if_true]
  refine wpAny_bind (wpAny_rule (wpAny_bind (wpAny_field hz rfl (x := .ref TO) rfl ?_)))
  refine wpAny_bind (wpAny_setField_rec hz (by simp) fun g0 hz0 hs0 => wpAny_bind ?_)
  replace hs0 : Heap.SameBut z hp g0 := hs0
  replace hz0 : ZipO g0 z TI TO .ellipsis b := hz0
  have hT0 : TupO g0 TO #[a1, a2] := hs0.extBut _ _ S.zTO.symm hTO
  have t1_0 : St1 i g0 := D1.frame _ _ _ st1 fun c hc o e => hs0.extBut c o (fun q => S.z1 (q ▸ hc)) e
  have t2_0 : St2 i g0 := D2.frame _ _ _ st2 fun c hc o e => hs0.extBut c o (fun q => S.z2 (q ▸ hc)) e
  have k0 : ∀ c o, c ≠ z → c ≠ TO → c ≠ i1 → c ≠ i2 → hp.get? c = some o → g0.get? c = some o := fun c o q0 _ _ _ e => hs0.extBut c o q0 e
  simp only [List.zipIdx_cons, List.zipIdx_nil, List.forIn_cons, List.forIn_nil]
  refine wpAny_bind (wpAny_bind (wpAny_onRaise (m := zdraw b (.ref i1)) (zdraw_item (s := ⟨g0, g, d, tk0, os⟩) D1 hi1 t1_0 fun x1 d1 tk1 p1 n1 hd1 => ?_)))
  replace hd1 : Heap.SameBut i1 g0 d1 := hd1
  have hU1 : TupO d1 TO #[a1, a2] := hd1.extBut _ _ (fun q => S.T1 (q ▸ S.m1)) hT0
  refine wpAny_bind (wpAny_seqItems (s := ⟨d1, g, d, tk1, os⟩) hU1 rfl ?_)
  refine wpAny_bind (upd_tup (s := ⟨d1, g, d, tk1, os⟩) hU1 (by simp) fun g1 hT1 hs1 => ?_)
  replace hs1 : Heap.SameBut TO d1 g1 := hs1
  replace hT1 : TupO g1 TO #[x1, a2] := hT1
  have hz1 : ZipO g1 z TI TO .ellipsis b := hs1.extBut _ _ S.zTO (hd1.extBut _ _ (fun q => S.z1 (q ▸ S.m1)) hz0)
  have t1_1 : St1 (i + 1) g1 := D1.frame _ _ _ n1 fun c hc o e => hs1.extBut c o (fun q => S.T1 (q ▸ hc)) e
  have t2_1 : St2 i g1 := D2.frame _ _ _ t2_0 fun c hc o e => hs1.extBut c o (fun q => S.T2 (q ▸ hc)) (hd1.extBut c o (fun q => S.s1_2 (q ▸ hc)) e)
  have k1 : ∀ c o, c ≠ z → c ≠ TO → c ≠ i1 → c ≠ i2 → hp.get? c = some o → g1.get? c = some o := fun c o qz qT q1 q2 e => hs1.extBut c o qT (hd1.extBut c o q1 (k0 c o qz qT q1 q2 e))
  have e1 : g1.objs.size = g0.objs.size := by rw [hs1.1, hd1.1]
  refine wpAny_bind (wpAny_letGo (wpAny_pure ?_))
  refine wpAny_bind (wpAny_bind (wpAny_onRaise (m := zdraw b (.ref i2)) (zdraw_item (s := ⟨g1, g, d, tk1, os⟩) D2 hi2 t2_1 fun x2 d2 tk2 p2 n2 hd2 => ?_)))
  replace hd2 : Heap.SameBut i2 g1 d2 := hd2
  have hU2 : TupO d2 TO #[x1, a2] := hd2.extBut _ _ (fun q => S.T2 (q ▸ S.m2)) hT1
  refine wpAny_bind (wpAny_seqItems (s := ⟨d2, g, d, tk2, os⟩) hU2 rfl ?_)
  refine wpAny_bind (upd_tup (s := ⟨d2, g, d, tk2, os⟩) hU2 (by simp) fun g2 hT2 hs2 => ?_)
  replace hs2 : Heap.SameBut TO d2 g2 := hs2
  replace hT2 : TupO g2 TO #[x1, x2] := hT2
  have hz2 : ZipO g2 z TI TO .ellipsis b := hs2.extBut _ _ S.zTO (hd2.extBut _ _ (fun q => S.z2 (q ▸ S.m2)) hz1)
  have t1_2 : St1 (i + 1) g2 := D1.frame _ _ _ t1_1 fun c hc o e => hs2.extBut c o (fun q => S.T1 (q ▸ hc)) (hd2.extBut c o (fun q => S.s2_1 (q ▸ hc)) e)
  have t2_2 : St2 (i + 1) g2 := D2.frame _ _ _ n2 fun c hc o e => hs2.extBut c o (fun q => S.T2 (q ▸ hc)) e
  have k2 : ∀ c o, c ≠ z → c ≠ TO → c ≠ i1 → c ≠ i2 → hp.get? c = some o → g2.get? c = some o := fun c o qz qT q1 q2 e => hs2.extBut c o qT (hd2.extBut c o q2 (k1 c o qz qT q1 q2 e))
  have e2 : g2.objs.size = g1.objs.size := by rw [hs2.1, hd2.1]
  refine wpAny_bind (wpAny_letGo (wpAny_pure ?_))
  refine wpAny_pure ?_
  refine wpAny_bind (wpAny_seqItems (s := ⟨g2, g, d, tk2, os⟩) hT2 rfl ?_)
  refine wpAny_bind (wpAny_newTuple ?_)
  have hsz : g2.objs.size = hp.objs.size := by rw [e2, e1, hs0.1]
  have hlt : z < g2.objs.size := Heap.lt_size hz2
  refine wpAny_bind ?_
  unfold Builtin.SmallTypes.ownedTupleHandOut
  have hy : ZipO (g2.push { cls := .type "tuple", data := .seq #[x1, x2] }) z TI TO .ellipsis b := Heap.get?_push_of_some _ hz2
  refine wpAny_bind (wpAny_setField_rec hy (by simp) fun u1 hu1 hv1 => wpAny_setField_rec hu1 (by simp) fun u2 hu2 hv2 => ?_)
  have up : ∀ c o, c ≠ z → g2.get? c = some o → u2.get? c = some o := fun c o q e => hv2.extBut c o q (hv1.extBut c o q (Heap.get?_push_of_some _ e))
  have hN : TupO u2 g2.objs.size #[x1, x2] := hv2.extBut _ _ (Nat.ne_of_gt hlt) (hv1.extBut _ _ (Nat.ne_of_gt hlt) (Heap.get?_push_size _ rfl))
  have hZ : ZipO u2 z TI TO (rawInt g2.objs.size) b := hu2
  rw [hsz] at hN hZ
  refine wpAny_pure ⟨_, rfl, ?_⟩
  show Q (.ref g2.objs.size) ⟨u2, g, d, tk2, os⟩
  rw [hsz]
  exact hQ x1 x2 u2 tk2 p1 p2 hZ (up _ _ S.zTO.symm hT2) (D1.frame _ _ _ t1_2 fun c hc o e => up c o (fun q => S.z1 (q ▸ hc)) e) (D2.frame _ _ _ t2_2 fun c hc o e => up c o (fun q => S.z2 (q ▸ hc)) e) hN fun c o qz qT q1 q2 e => up c o qz (k2 c o qz qT q1 q2 e)
theorem next_end2 {z TI TO i1 i2 : Addr} {fp1 fp2 : List Addr} {n : Nat} {P1 P2 : Nat → Value → Prop} {St1 St2 : Nat → Heap → Prop} {a1 a2 : Value} {Q : Fin → Shared → Prop} (hh : A.handled = none) (S : Sep2 z TI TO i1 i2 fp1 fp2) (D1 : Draws prog w A i1 fp1 n P1 St1) (D2 : Draws prog w A i2 fp2 n P2 St2)
    (hz : ZipO s.heap z TI TO .none b) (hTI : TupO s.heap TI #[.ref i1, .ref i2]) (hTO : TupO s.heap TO #[a1, a2]) (st1 : St1 n s.heap) (st2 : St2 n s.heap)
    (hE : ∀ h' e, (∀ c o, c ≠ z → c ≠ TO → c ≠ i1 → c ≠ i2 → s.heap.get? c = some o → h'.get? c = some o) → (∃ o, h'.get? e = some o ∧ o.cls = .type "StopIteration") → E (.ref e) { s with heap := h' }) :
    wpAny (model prog w) A (Builtin.«zip.__next__» ⟨[.ref z], []⟩) Q E s := by
  obtain ⟨hp, g, d, tk0, os⟩ := s
  refine wpAny_bind (m := field (.ref z) 2) (wpAny_field hz rfl (x := .bool b) rfl ?_)
  refine wpAny_bind (m := field (.ref z) 3) (wpAny_field hz rfl (x := .ref TI) rfl ?_)
  refine wpAny_bind (wpAny_seqItems hTI rfl ?_)
  show wpAny _ _ (Builtin.SmallTypes.ownedTupleIsFree (.ref z) >>= _) _ _ _
  rw [val_b]
  refine wpAny_bind ?_
  unfold Builtin.SmallTypes.ownedTupleIsFree
  refine wpAny_bind (wpAny_field hz rfl (x := .none) rfl (wpAny_pure ?_))
  simp only [if_true]
  refine wpAny_bind (wpAny_rule (wpAny_bind (wpAny_field hz rfl (x := .ref TO) rfl ?_)))
  refine wpAny_bind (wpAny_setField_rec hz (by simp) fun g0 hz0 hs0 => wpAny_bind ?_)
  replace hs0 : Heap.SameBut z hp g0 := hs0
  replace hz0 : ZipO g0 z TI TO .ellipsis b := hz0
  have t1_0 : St1 n g0 := D1.frame _ _ _ st1 fun c hc o e => hs0.extBut c o (fun q => S.z1 (q ▸ hc)) e
  have t2_0 : St2 n g0 := D2.frame _ _ _ st2 fun c hc o e => hs0.extBut c o (fun q => S.z2 (q ▸ hc)) e
  simp only [List.zipIdx_cons, List.zipIdx_nil, List.forIn_cons, List.forIn_nil]
  refine wpAny_bind (wpAny_bind (wpAny_onRaise ?_))
  cases b with
  | false =>
    refine wpAny_bind (m := Builtin.SmallTypes.nextOf (.ref i1)) (D1.done ⟨g0, g, d, tk0, os⟩ _ _ t1_0 fun y e hy he => ?_)
    replace hy : Heap.ExtBut i1 g0 y := hy
    obtain ⟨oe, hoe, hce⟩ := he
    replace hoe : y.get? e = some oe := hoe
    have hzy : ZipO y z TI TO .ellipsis false := hy _ _ (fun q => S.z1 (q ▸ S.m1)) hz0
    have hez : e ≠ z := fun x => by subst x; rw [hzy] at hoe; cases hoe; simp at hce
    refine wpAny_setField_rec (s := ⟨y, g, d, tk0, os⟩) hzy (by simp) fun y2 _ hv => ?_
    replace hv : Heap.SameBut z y y2 := hv
    exact hE y2 e (fun c o qz qT q1 q2 x => hv.extBut c o qz (hy c o q1 (hs0.extBut c o qz x))) ⟨oe, hv.extBut _ _ hez hoe, hce⟩
  | true =>
    refine zend_strict (s := ⟨g0, g, d, tk0, os⟩) D1 t1_0 fun y hy => ?_
    replace hy : Heap.ExtBut i1 g0 y := hy
    have hzy : ZipO y z TI TO .ellipsis true := hy _ _ (fun q => S.z1 (q ▸ S.m1)) hz0
    have t2_1 : St2 n y := D2.frame _ _ _ t2_0 fun c hc o e => hy c o (fun q => S.s1_2 (q ▸ hc)) e
    refine wpAny_bind (wpAny_setField_rec (s := ⟨y, g, d, tk0, os⟩) hzy (by simp) fun y1 _ hv1 => ?_)
    replace hv1 : Heap.SameBut z y y1 := hv1
    have r2_1 : St2 n y1 := D2.frame _ _ _ t2_1 fun c hc o e => hv1.extBut c o (fun q => S.z2 (q ▸ hc)) e
    have k1 : ∀ c o, c ≠ z → c ≠ TO → c ≠ i1 → c ≠ i2 → hp.get? c = some o → y1.get? c = some o := fun c o qz qT q1 q2 e => hv1.extBut c o qz (hy c o q1 (hs0.extBut c o qz e))
    refine wpAny_bind ?_
    refine wpAny_bind ?_
    simp only [List.drop_succ_cons, List.drop_zero, List.zipIdx_cons, List.zipIdx_nil, List.forIn_cons, List.forIn_nil]
    refine wpAny_bind (wpAny_bind (zend_strict (s := ⟨y1, g, d, tk0, os⟩) D2 r2_1 fun y2 hy2 => ?_))
    replace hy2 : Heap.ExtBut i2 y1 y2 := hy2
    have k2 : ∀ c o, c ≠ z → c ≠ TO → c ≠ i1 → c ≠ i2 → hp.get? c = some o → y2.get? c = some o := fun c o qz qT q1 q2 e => hy2 c o q2 (k1 c o qz qT q1 q2 e)
    refine wpAny_pure ?_
    refine wpAny_pure ?_
    exact wpAny_bind (wpAny_rule (stop_it (s := ⟨y2, g, d, tk0, os⟩) hh fun h2 e kk he => hE h2 e (fun c o qz qT q1 q2 x => kk c o (k2 c o qz qT q1 q2 x)) he))
theorem py_item2 {z TI TO i1 i2 : Addr} {fp1 fp2 : List Addr} {n1 n2 i : Nat} {P1 P2 : Nat → Value → Prop} {St1 St2 : Nat → Heap → Prop} {a1 a2 : Value} {Q : Option Value → Shared → Prop} (S : Sep2 z TI TO i1 i2 fp1 fp2) (D1 : Draws prog w A.in1 i1 fp1 n1 P1 St1) (D2 : Draws prog w A.in1 i2 fp2 n2 P2 St2)
    (hz : ZipO s.heap z TI TO .none b) (hTI : TupO s.heap TI #[.ref i1, .ref i2]) (hTO : TupO s.heap TO #[a1, a2]) (st1 : St1 i s.heap) (st2 : St2 i s.heap) (hi1 : i < n1) (hi2 : i < n2)
    (hQ : ∀ x1 x2 h' tk, P1 i x1 → P2 i x2 → ZipO h' z TI TO (rawInt s.heap.objs.size) b → TupO h' TO #[x1, x2] → St1 (i + 1) h' → St2 (i + 1) h' → TupO h' s.heap.objs.size #[x1, x2] →
      (∀ c o, c ≠ z → c ≠ TO → c ≠ i1 → c ≠ i2 → s.heap.get? c = some o → h'.get? c = some o) → Q (some (.ref s.heap.objs.size)) { s with heap := h', toks := tk }) : wpAny (model prog w) A (pyNext (.ref z)) Q E s := by
  have hT : s.TypeIs (.ref z) "zip" := ⟨_, hz, rfl⟩
  unfold pyNext
  refine wpAny_bind (wpAny_attempt (wpAny_callSpecial?_slot (name := Str.ofString "__next__") hT F.slot_zip_next (wpAny_call_entry F.slot_zip_next hT F.entry_zip_next ?_ (F.args_zip_next_1 _))))
  exact next_item2 S D1 D2 hz hTI hTO st1 st2 hi1 hi2 fun x1 x2 h2 tk p1 p2 q1 q2 u1 u2 q3 q4 => wpAny_pure (hQ x1 x2 h2 tk p1 p2 q1 q2 u1 u2 q3 q4)
theorem py_end2 {z TI TO i1 i2 : Addr} {fp1 fp2 : List Addr} {n : Nat} {P1 P2 : Nat → Value → Prop} {St1 St2 : Nat → Heap → Prop} {a1 a2 : Value} {Q : Option Value → Shared → Prop} (hh : A.handled = none) (S : Sep2 z TI TO i1 i2 fp1 fp2) (D1 : Draws prog w A.in1 i1 fp1 n P1 St1) (D2 : Draws prog w A.in1 i2 fp2 n P2 St2)
    (hz : ZipO s.heap z TI TO .none b) (hTI : TupO s.heap TI #[.ref i1, .ref i2]) (hTO : TupO s.heap TO #[a1, a2]) (st1 : St1 n s.heap) (st2 : St2 n s.heap)
    (hQ : ∀ h', (∀ c o, c ≠ z → c ≠ TO → c ≠ i1 → c ≠ i2 → s.heap.get? c = some o → h'.get? c = some o) → Q none { s with heap := h' }) : wpAny (model prog w) A (pyNext (.ref z)) Q E s := by
  have hT : s.TypeIs (.ref z) "zip" := ⟨_, hz, rfl⟩
  unfold pyNext
  refine wpAny_bind (wpAny_attempt (wpAny_callSpecial?_slot (name := Str.ofString "__next__") hT F.slot_zip_next (wpAny_call_entry F.slot_zip_next hT F.entry_zip_next ?_ (F.args_zip_next_1 _))))
  refine next_end2 (A := A.in1) hh S D1 D2 hz hTI hTO st1 st2 fun h2 e kk he => ?_
  obtain ⟨o, ho, hc⟩ := he
  exact wpAny_bind (wpAny_isInstance (T := "StopIteration") (b := true) ⟨o, ho, hc⟩ isSubtype_stop (wpAny_pure (hQ _ kk)))
theorem typeCall_strict2 (v1 v2 x : Value) : checkTypeCall "zip" ⟨[v1, v2], [(Str.ofString "strict", x)]⟩ = pure () := by kernel_rfl
theorem newCall_strict2 (v1 v2 x : Value) : checkBuiltinCall "zip.__new__" ⟨[.type "zip", v1, v2], [(Str.ofString "strict", x)]⟩ = pure () := by kernel_rfl
theorem initArgs_strict2 (obj v1 v2 x : Value) : argsOk "object.__init__" ⟨[obj, v1, v2], [(Str.ofString "strict", x)]⟩ := by unfold argsOk; kernel_rfl
abbrev sT2 (h : Heap) (o1 o2 : Obj) : Heap := (((h.push o1).push o2).push { cls := .type "tuple", data := .seq #[.ref h.objs.size, .ref (h.push o1).objs.size] })
abbrev sO2 (h : Heap) (o1 o2 : Obj) : Heap := (sT2 h o1 o2).push { cls := .type "tuple", data := .seq #[.none, .none] }
abbrev sZ2 (h : Heap) (o1 o2 : Obj) : Heap := (sO2 h o1 o2).push { cls := .type "zip", data := .fields #[.none, .bool false, .bool true, .ref ((h.push o1).push o2).objs.size, .ref (sT2 h o1 o2).objs.size] }
theorem meets_strict2 {v1 v2 : Value} {o1 o2 : Obj} {G1 G2 : Heap → Prop} (B1 : Begins v1 o1 G1) (B2 : Begins v2 o2 G2) :
    Meets (Builtin.«zip.__new__» ⟨[.type "zip", v1, v2], [(Str.ofString "strict", .bool true)]⟩) (fun _ R s => (G1 s.heap ∧ G2 s.heap) ∧ R (.ok (.ret (.ref (sO2 s.heap o1 o2).objs.size))) { s with heap := (sZ2 s.heap o1 o2) }) :=
  .of_wp fun prog w A R s h => by
    obtain ⟨hp, g, d, tk, os⟩ := s
    obtain ⟨⟨h1, h2⟩, h⟩ := h
    have hsub := sub_zip
    have e1 : (Str.ofString "strict" != ("strict" : Str)) = false := by decide +kernel
    have w1 : ∀ {A' : Around} {E : Value → Shared → Prop} {Q : Value → Shared → Prop}, Q (.ref hp.objs.size) ⟨(hp.push o1), g, d, tk, os⟩ → wpAny (model prog w) A' (pyIter v1) Q E ⟨hp, g, d, tk, os⟩ := fun q => B1.iter prog w _ _ ⟨hp, g, d, tk, os⟩ _ (B1.keeps _ _ h1 fun c u e => e) q
    have w2 : ∀ {A' : Around} {E : Value → Shared → Prop} {Q : Value → Shared → Prop}, Q (.ref (hp.push o1).objs.size) ⟨((hp.push o1).push o2), g, d, tk, os⟩ → wpAny (model prog w) A' (pyIter v2) Q E ⟨(hp.push o1), g, d, tk, os⟩ := fun q => B2.iter prog w _ _ ⟨(hp.push o1), g, d, tk, os⟩ _ (B2.keeps _ _ h2 fun c u e => (Heap.get?_push_of_some _ e)) q
    wp_walk using w1, w2
    exact ⟨_, rfl, h⟩
/-- zip(.., strict=True) of 2: its new cells -/
theorem begins_strict2 {v1 v2 : Value} {o1 o2 : Obj} {G1 G2 : Heap → Prop} {Q : Value → Shared → Prop} (B1 : Begins v1 o1 G1) (B2 : Begins v2 o2 G2) (h1 : G1 s.heap) (h2 : G2 s.heap)
    (h : ∀ h', ZipO h' (s.heap.objs.size + 4) (s.heap.objs.size + 2) (s.heap.objs.size + 3) .none true → TupO h' (s.heap.objs.size + 2) #[.ref s.heap.objs.size, .ref (s.heap.objs.size + 1)] → TupO h' (s.heap.objs.size + 3) #[.none, .none] → h'.get? s.heap.objs.size = some o1 → h'.get? (s.heap.objs.size + 1) = some o2 → (∀ c o, s.heap.get? c = some o → h'.get? c = some o) → Q (.ref (s.heap.objs.size + 4)) { s with heap := h' }) :
    wpAny (model prog w) A (call (.type "zip") [v1, v2] [(Str.ofString "strict", .bool true)]) Q E s := by
  refine callType_newKw F.called_zip (by decide) (typeCall_strict2 _ _ _) (newCall_strict2 _ _ _) (fun obj => initArgs_strict2 obj _ _ _) F.entry_zip_new (meets_strict2 B1 B2) ⟨⟨h1, h2⟩, ?_⟩
  have z1 : (s.heap.push o1).objs.size = s.heap.objs.size + 1 := by rw [Heap.size_push]
  have z2 : ((s.heap.push o1).push o2).objs.size = s.heap.objs.size + 2 := by rw [Heap.size_push, z1]
  have z3 : (sT2 s.heap o1 o2).objs.size = s.heap.objs.size + 3 := by rw [Heap.size_push, z2]
  have z4 : (sO2 s.heap o1 o2).objs.size = s.heap.objs.size + 4 := by rw [Heap.size_push, z3]
  have z5 : (sZ2 s.heap o1 o2).objs.size = s.heap.objs.size + 5 := by rw [Heap.size_push, z4]
  have q0 : (sZ2 s.heap o1 o2).get? s.heap.objs.size = some o1 := (Heap.get?_push_of_some _ (Heap.get?_push_of_some _ (Heap.get?_push_of_some _ (Heap.get?_push_of_some _ (Heap.get?_push_size _ B1.free)))))
  have q1 : (sZ2 s.heap o1 o2).get? (s.heap.push o1).objs.size = some o2 := (Heap.get?_push_of_some _ (Heap.get?_push_of_some _ (Heap.get?_push_of_some _ (Heap.get?_push_size _ B2.free))))
  rw [z1] at q1
  have q2 : (sZ2 s.heap o1 o2).get? ((s.heap.push o1).push o2).objs.size = some ({ cls := .type "tuple", data := .seq #[.ref s.heap.objs.size, .ref (s.heap.push o1).objs.size] } : Obj) := (Heap.get?_push_of_some _ (Heap.get?_push_of_some _ (Heap.get?_push_size _ rfl)))
  rw [z2] at q2
  have q3 : (sZ2 s.heap o1 o2).get? (sT2 s.heap o1 o2).objs.size = some ({ cls := .type "tuple", data := .seq #[.none, .none] } : Obj) := (Heap.get?_push_of_some _ (Heap.get?_push_size _ rfl))
  rw [z3] at q3
  have q4 : (sZ2 s.heap o1 o2).get? (sO2 s.heap o1 o2).objs.size = some ({ cls := .type "zip", data := .fields #[.none, .bool false, .bool true, .ref ((s.heap.push o1).push o2).objs.size, .ref (sT2 s.heap o1 o2).objs.size] } : Obj) := (Heap.get?_push_size _ rfl)
  rw [z4] at q4
  rw [z1] at q2
  rw [z3, z2] at q4
  show _ ∧ _
  rw [z4]
  exact ⟨⟨_, q4, rfl⟩, h _ q4 q2 q3 q0 q1 fun c o e => (Heap.get?_push_of_some _ (Heap.get?_push_of_some _ (Heap.get?_push_of_some _ (Heap.get?_push_of_some _ (Heap.get?_push_of_some _ e)))))⟩
end
/-- the cells of a zip over 3 iterators lie apart -/
structure Sep3 (z TI TO i1 i2 i3 : Addr) (fp1 fp2 fp3 : List Addr) : Prop where
  zTO : z ≠ TO
  zTI : z ≠ TI
  TOTI : TO ≠ TI
  m1 : i1 ∈ fp1
  z1 : z ∉ fp1
  T1 : TO ∉ fp1
  I1 : TI ≠ i1
  s2_1 : i2 ∉ fp1
  s3_1 : i3 ∉ fp1
  m2 : i2 ∈ fp2
  z2 : z ∉ fp2
  T2 : TO ∉ fp2
  I2 : TI ≠ i2
  s1_2 : i1 ∉ fp2
  s3_2 : i3 ∉ fp2
  m3 : i3 ∈ fp3
  z3 : z ∉ fp3
  T3 : TO ∉ fp3
  I3 : TI ≠ i3
  s1_3 : i1 ∉ fp3
  s2_3 : i2 ∉ fp3
section
variable {prog : Program} {w : World} {A : Around} {E : Value → Shared → Prop} {s : Shared} {b : Bool}
theorem next_item3 {z TI TO i1 i2 i3 : Addr} {fp1 fp2 fp3 : List Addr} {n1 n2 n3 i : Nat} {P1 P2 P3 : Nat → Value → Prop} {St1 St2 St3 : Nat → Heap → Prop} {a1 a2 a3 : Value} {Q : Value → Shared → Prop} (S : Sep3 z TI TO i1 i2 i3 fp1 fp2 fp3) (D1 : Draws prog w A i1 fp1 n1 P1 St1) (D2 : Draws prog w A i2 fp2 n2 P2 St2) (D3 : Draws prog w A i3 fp3 n3 P3 St3)
    (hz : ZipO s.heap z TI TO .none b) (hTI : TupO s.heap TI #[.ref i1, .ref i2, .ref i3]) (hTO : TupO s.heap TO #[a1, a2, a3]) (st1 : St1 i s.heap) (st2 : St2 i s.heap) (st3 : St3 i s.heap) (hi1 : i < n1) (hi2 : i < n2) (hi3 : i < n3)
    (hQ : ∀ x1 x2 x3 h' tk, P1 i x1 → P2 i x2 → P3 i x3 → ZipO h' z TI TO (rawInt s.heap.objs.size) b → TupO h' TO #[x1, x2, x3] → St1 (i + 1) h' → St2 (i + 1) h' → St3 (i + 1) h' → TupO h' s.heap.objs.size #[x1, x2, x3] →
      (∀ c o, c ≠ z → c ≠ TO → c ≠ i1 → c ≠ i2 → c ≠ i3 → s.heap.get? c = some o → h'.get? c = some o) → Q (.ref s.heap.objs.size) { s with heap := h', toks := tk }) :
    wpAny (model prog w) A (Builtin.«zip.__next__» ⟨[.ref z], []⟩) (fun fin s' => ∃ v, fin = .done (.ret v) ∧ Q v s') E s := by
  obtain ⟨hp, g, d, tk0, os⟩ := s
  refine wpAny_bind (m := field (.ref z) 2) (wpAny_field hz rfl (x := .bool b) rfl ?_)
  refine wpAny_bind (m := field (.ref z) 3) (wpAny_field hz rfl (x := .ref TI) rfl ?_)
  refine wpAny_bind (wpAny_seqItems hTI rfl ?_)
  show wpAny _ _ (Builtin.SmallTypes.ownedTupleIsFree (.ref z) >>= _) _ _ _
  rw [val_b]
  refine wpAny_bind ?_
  unfold Builtin.SmallTypes.ownedTupleIsFree
  refine wpAny_bind (wpAny_field hz rfl (x := .none) rfl (wpAny_pure ?_))
  simp only [if_true]
  refine wpAny_bind (wpAny_rule (wpAny_bind (wpAny_field hz rfl (x := .ref TO) rfl ?_)))
  refine wpAny_bind (wpAny_setField_rec hz (by simp) fun g0 hz0 hs0 => wpAny_bind ?_)
  replace hs0 : Heap.SameBut z hp g0 := hs0
  replace hz0 : ZipO g0 z TI TO .ellipsis b := hz0
  have hT0 : TupO g0 TO #[a1, a2, a3] := hs0.extBut _ _ S.zTO.symm hTO
  have t1_0 : St1 i g0 := D1.frame _ _ _ st1 fun c hc o e => hs0.extBut c o (fun q => S.z1 (q ▸ hc)) e
  have t2_0 : St2 i g0 := D2.frame _ _ _ st2 fun c hc o e => hs0.extBut c o (fun q => S.z2 (q ▸ hc)) e
  have t3_0 : St3 i g0 := D3.frame _ _ _ st3 fun c hc o e => hs0.extBut c o (fun q => S.z3 (q ▸ hc)) e
  have k0 : ∀ c o, c ≠ z → c ≠ TO → c ≠ i1 → c ≠ i2 → c ≠ i3 → hp.get? c = some o → g0.get? c = some o := fun c o q0 _ _ _ _ e => hs0.extBut c o q0 e
  simp only [List.zipIdx_cons, List.zipIdx_nil, List.forIn_cons, List.forIn_nil]
  refine wpAny_bind (wpAny_bind (wpAny_onRaise (m := zdraw b (.ref i1)) (zdraw_item (s := ⟨g0, g, d, tk0, os⟩) D1 hi1 t1_0 fun x1 d1 tk1 p1 n1 hd1 => ?_)))
  replace hd1 : Heap.SameBut i1 g0 d1 := hd1
  have hU1 : TupO d1 TO #[a1, a2, a3] := hd1.extBut _ _ (fun q => S.T1 (q ▸ S.m1)) hT0
  refine wpAny_bind (wpAny_seqItems (s := ⟨d1, g, d, tk1, os⟩) hU1 rfl ?_)
  refine wpAny_bind (upd_tup (s := ⟨d1, g, d, tk1, os⟩) hU1 (by simp) fun g1 hT1 hs1 => ?_)
  replace hs1 : Heap.SameBut TO d1 g1 := hs1
  replace hT1 : TupO g1 TO #[x1, a2, a3] := hT1
  have hz1 : ZipO g1 z TI TO .ellipsis b := hs1.extBut _ _ S.zTO (hd1.extBut _ _ (fun q => S.z1 (q ▸ S.m1)) hz0)
  have t1_1 : St1 (i + 1) g1 := D1.frame _ _ _ n1 fun c hc o e => hs1.extBut c o (fun q => S.T1 (q ▸ hc)) e
  have t2_1 : St2 i g1 := D2.frame _ _ _ t2_0 fun c hc o e => hs1.extBut c o (fun q => S.T2 (q ▸ hc)) (hd1.extBut c o (fun q => S.s1_2 (q ▸ hc)) e)
  have t3_1 : St3 i g1 := D3.frame _ _ _ t3_0 fun c hc o e => hs1.extBut c o (fun q => S.T3 (q ▸ hc)) (hd1.extBut c o (fun q => S.s1_3 (q ▸ hc)) e)
  have k1 : ∀ c o, c ≠ z → c ≠ TO → c ≠ i1 → c ≠ i2 → c ≠ i3 → hp.get? c = some o → g1.get? c = some o := fun c o qz qT q1 q2 q3 e => hs1.extBut c o qT (hd1.extBut c o q1 (k0 c o qz qT q1 q2 q3 e))
  have e1 : g1.objs.size = g0.objs.size := by rw [hs1.1, hd1.1]
  refine wpAny_bind (wpAny_letGo (wpAny_pure ?_))
  refine wpAny_bind (wpAny_bind (wpAny_onRaise (m := zdraw b (.ref i2)) (zdraw_item (s := ⟨g1, g, d, tk1, os⟩) D2 hi2 t2_1 fun x2 d2 tk2 p2 n2 hd2 => ?_)))
  replace hd2 : Heap.SameBut i2 g1 d2 := hd2
  have hU2 : TupO d2 TO #[x1, a2, a3] := hd2.extBut _ _ (fun q => S.T2 (q ▸ S.m2)) hT1
  refine wpAny_bind (wpAny_seqItems (s := ⟨d2, g, d, tk2, os⟩) hU2 rfl ?_)
  refine wpAny_bind (upd_tup (s := ⟨d2, g, d, tk2, os⟩) hU2 (by simp) fun g2 hT2 hs2 => ?_)
  replace hs2 : Heap.SameBut TO d2 g2 := hs2
  replace hT2 : TupO g2 TO #[x1, x2, a3] := hT2
  have hz2 : ZipO g2 z TI TO .ellipsis b := hs2.extBut _ _ S.zTO (hd2.extBut _ _ (fun q => S.z2 (q ▸ S.m2)) hz1)
  have t1_2 : St1 (i + 1) g2 := D1.frame _ _ _ t1_1 fun c hc o e => hs2.extBut c o (fun q => S.T1 (q ▸ hc)) (hd2.extBut c o (fun q => S.s2_1 (q ▸ hc)) e)
  have t2_2 : St2 (i + 1) g2 := D2.frame _ _ _ n2 fun c hc o e => hs2.extBut c o (fun q => S.T2 (q ▸ hc)) e
  have t3_2 : St3 i g2 := D3.frame _ _ _ t3_1 fun c hc o e => hs2.extBut c o (fun q => S.T3 (q ▸ hc)) (hd2.extBut c o (fun q => S.s2_3 (q ▸ hc)) e)
  have k2 : ∀ c o, c ≠ z → c ≠ TO → c ≠ i1 → c ≠ i2 → c ≠ i3 → hp.get? c = some o → g2.get? c = some o := fun c o qz qT q1 q2 q3 e => hs2.extBut c o qT (hd2.extBut c o q2 (k1 c o qz qT q1 q2 q3 e))
  have e2 : g2.objs.size = g1.objs.size := by rw [hs2.1, hd2.1]
  refine wpAny_bind (wpAny_letGo (wpAny_pure ?_))
  refine wpAny_bind (wpAny_bind (wpAny_onRaise (m := zdraw b (.ref i3)) (zdraw_item (s := ⟨g2, g, d, tk2, os⟩) D3 hi3 t3_2 fun x3 d3 tk3 p3 n3 hd3 => ?_)))
  replace hd3 : Heap.SameBut i3 g2 d3 := hd3
  have hU3 : TupO d3 TO #[x1, x2, a3] := hd3.extBut _ _ (fun q => S.T3 (q ▸ S.m3)) hT2
  refine wpAny_bind (wpAny_seqItems (s := ⟨d3, g, d, tk3, os⟩) hU3 rfl ?_)
  refine wpAny_bind (upd_tup (s := ⟨d3, g, d, tk3, os⟩) hU3 (by simp) fun g3 hT3 hs3 => ?_)
  replace hs3 : Heap.SameBut TO d3 g3 := hs3
  replace hT3 : TupO g3 TO #[x1, x2, x3] := hT3
  have hz3 : ZipO g3 z TI TO .ellipsis b := hs3.extBut _ _ S.zTO (hd3.extBut _ _ (fun q => S.z3 (q ▸ S.m3)) hz2)
  have t1_3 : St1 (i + 1) g3 := D1.frame _ _ _ t1_2 fun c hc o e => hs3.extBut c o (fun q => S.T1 (q ▸ hc)) (hd3.extBut c o (fun q => S.s3_1 (q ▸ hc)) e)
  have t2_3 : St2 (i + 1) g3 := D2.frame _ _ _ t2_2 fun c hc o e => hs3.extBut c o (fun q => S.T2 (q ▸ hc)) (hd3.extBut c o (fun q => S.s3_2 (q ▸ hc)) e)
  have t3_3 : St3 (i + 1) g3 := D3.frame _ _ _ n3 fun c hc o e => hs3.extBut c o (fun q => S.T3 (q ▸ hc)) e
  have k3 : ∀ c o, c ≠ z → c ≠ TO → c ≠ i1 → c ≠ i2 → c ≠ i3 → hp.get? c = some o → g3.get? c = some o := fun c o qz qT q1 q2 q3 e => hs3.extBut c o qT (hd3.extBut c o q3 (k2 c o qz qT q1 q2 q3 e))
  have e3 : g3.objs.size = g2.objs.size := by rw [hs3.1, hd3.1]
  refine wpAny_bind (wpAny_letGo (wpAny_pure ?_))
  refine wpAny_pure ?_
  refine wpAny_bind (wpAny_seqItems (s := ⟨g3, g, d, tk3, os⟩) hT3 rfl ?_)
  refine wpAny_bind (wpAny_newTuple ?_)
  have hsz : g3.objs.size = hp.objs.size := by rw [e3, e2, e1, hs0.1]
  have hlt : z < g3.objs.size := Heap.lt_size hz3
  refine wpAny_bind ?_
  unfold Builtin.SmallTypes.ownedTupleHandOut
  have hy : ZipO (g3.push { cls := .type "tuple", data := .seq #[x1, x2, x3] }) z TI TO .ellipsis b := Heap.get?_push_of_some _ hz3
  refine wpAny_bind (wpAny_setField_rec hy (by simp) fun u1 hu1 hv1 => wpAny_setField_rec hu1 (by simp) fun u2 hu2 hv2 => ?_)
  have up : ∀ c o, c ≠ z → g3.get? c = some o → u2.get? c = some o := fun c o q e => hv2.extBut c o q (hv1.extBut c o q (Heap.get?_push_of_some _ e))
  have hN : TupO u2 g3.objs.size #[x1, x2, x3] := hv2.extBut _ _ (Nat.ne_of_gt hlt) (hv1.extBut _ _ (Nat.ne_of_gt hlt) (Heap.get?_push_size _ rfl))
  have hZ : ZipO u2 z TI TO (rawInt g3.objs.size) b := hu2
  rw [hsz] at hN hZ
  refine wpAny_pure ⟨_, rfl, ?_⟩
  show Q (.ref g3.objs.size) ⟨u2, g, d, tk3, os⟩
  rw [hsz]
  exact hQ x1 x2 x3 u2 tk3 p1 p2 p3 hZ (up _ _ S.zTO.symm hT3) (D1.frame _ _ _ t1_3 fun c hc o e => up c o (fun q => S.z1 (q ▸ hc)) e) (D2.frame _ _ _ t2_3 fun c hc o e => up c o (fun q => S.z2 (q ▸ hc)) e) (D3.frame _ _ _ t3_3 fun c hc o e => up c o (fun q => S.z3 (q ▸ hc)) e) hN fun c o qz qT q1 q2 q3 e => up c o qz (k3 c o qz qT q1 q2 q3 e)
theorem next_end3 {z TI TO i1 i2 i3 : Addr} {fp1 fp2 fp3 : List Addr} {n : Nat} {P1 P2 P3 : Nat → Value → Prop} {St1 St2 St3 : Nat → Heap → Prop} {a1 a2 a3 : Value} {Q : Fin → Shared → Prop} (hh : A.handled = none) (S : Sep3 z TI TO i1 i2 i3 fp1 fp2 fp3) (D1 : Draws prog w A i1 fp1 n P1 St1) (D2 : Draws prog w A i2 fp2 n P2 St2) (D3 : Draws prog w A i3 fp3 n P3 St3)
    (hz : ZipO s.heap z TI TO .none b) (hTI : TupO s.heap TI #[.ref i1, .ref i2, .ref i3]) (hTO : TupO s.heap TO #[a1, a2, a3]) (st1 : St1 n s.heap) (st2 : St2 n s.heap) (st3 : St3 n s.heap)
    (hE : ∀ h' e, (∀ c o, c ≠ z → c ≠ TO → c ≠ i1 → c ≠ i2 → c ≠ i3 → s.heap.get? c = some o → h'.get? c = some o) → (∃ o, h'.get? e = some o ∧ o.cls = .type "StopIteration") → E (.ref e) { s with heap := h' }) :
    wpAny (model prog w) A (Builtin.«zip.__next__» ⟨[.ref z], []⟩) Q E s := by
  obtain ⟨hp, g, d, tk0, os⟩ := s
  refine wpAny_bind (m := field (.ref z) 2) (wpAny_field hz rfl (x := .bool b) rfl ?_)
  refine wpAny_bind (m := field (.ref z) 3) (wpAny_field hz rfl (x := .ref TI) rfl ?_)
  refine wpAny_bind (wpAny_seqItems hTI rfl ?_)
  show wpAny _ _ (Builtin.SmallTypes.ownedTupleIsFree (.ref z) >>= _) _ _ _
  rw [val_b]
  refine wpAny_bind ?_
  unfold Builtin.SmallTypes.ownedTupleIsFree
  refine wpAny_bind (wpAny_field hz rfl (x := .none) rfl (wpAny_pure ?_))
  simp only [if_true]
  refine wpAny_bind (wpAny_rule (wpAny_bind (wpAny_field hz rfl (x := .ref TO) rfl ?_)))
  refine wpAny_bind (wpAny_setField_rec hz (by simp) fun g0 hz0 hs0 => wpAny_bind ?_)
  replace hs0 : Heap.SameBut z hp g0 := hs0
  replace hz0 : ZipO g0 z TI TO .ellipsis b := hz0
  have t1_0 : St1 n g0 := D1.frame _ _ _ st1 fun c hc o e => hs0.extBut c o (fun q => S.z1 (q ▸ hc)) e
  have t2_0 : St2 n g0 := D2.frame _ _ _ st2 fun c hc o e => hs0.extBut c o (fun q => S.z2 (q ▸ hc)) e
  have t3_0 : St3 n g0 := D3.frame _ _ _ st3 fun c hc o e => hs0.extBut c o (fun q => S.z3 (q ▸ hc)) e
  simp only [List.zipIdx_cons, List.zipIdx_nil, List.forIn_cons, List.forIn_nil]
  refine wpAny_bind (wpAny_bind (wpAny_onRaise ?_))
  cases b with
  | false =>
    refine wpAny_bind (m := Builtin.SmallTypes.nextOf (.ref i1)) (D1.done ⟨g0, g, d, tk0, os⟩ _ _ t1_0 fun y e hy he => ?_)
    replace hy : Heap.ExtBut i1 g0 y := hy
    obtain ⟨oe, hoe, hce⟩ := he
    replace hoe : y.get? e = some oe := hoe
    have hzy : ZipO y z TI TO .ellipsis false := hy _ _ (fun q => S.z1 (q ▸ S.m1)) hz0
    have hez : e ≠ z := fun x => by subst x; rw [hzy] at hoe; cases hoe; simp at hce
    refine wpAny_setField_rec (s := ⟨y, g, d, tk0, os⟩) hzy (by simp) fun y2 _ hv => ?_
    replace hv : Heap.SameBut z y y2 := hv
    exact hE y2 e (fun c o qz qT q1 q2 q3 x => hv.extBut c o qz (hy c o q1 (hs0.extBut c o qz x))) ⟨oe, hv.extBut _ _ hez hoe, hce⟩
  | true =>
    refine zend_strict (s := ⟨g0, g, d, tk0, os⟩) D1 t1_0 fun y hy => ?_
    replace hy : Heap.ExtBut i1 g0 y := hy
    have hzy : ZipO y z TI TO .ellipsis true := hy _ _ (fun q => S.z1 (q ▸ S.m1)) hz0
    have t2_1 : St2 n y := D2.frame _ _ _ t2_0 fun c hc o e => hy c o (fun q => S.s1_2 (q ▸ hc)) e
    have t3_1 : St3 n y := D3.frame _ _ _ t3_0 fun c hc o e => hy c o (fun q => S.s1_3 (q ▸ hc)) e
    refine wpAny_bind (wpAny_setField_rec (s := ⟨y, g, d, tk0, os⟩) hzy (by simp) fun y1 _ hv1 => ?_)
    replace hv1 : Heap.SameBut z y y1 := hv1
    have r2_1 : St2 n y1 := D2.frame _ _ _ t2_1 fun c hc o e => hv1.extBut c o (fun q => S.z2 (q ▸ hc)) e
    have r3_1 : St3 n y1 := D3.frame _ _ _ t3_1 fun c hc o e => hv1.extBut c o (fun q => S.z3 (q ▸ hc)) e
    have k1 : ∀ c o, c ≠ z → c ≠ TO → c ≠ i1 → c ≠ i2 → c ≠ i3 → hp.get? c = some o → y1.get? c = some o := fun c o qz qT q1 q2 q3 e => hv1.extBut c o qz (hy c o q1 (hs0.extBut c o qz e))
    refine wpAny_bind ?_
    refine wpAny_bind ?_
    simp only [List.drop_succ_cons, List.drop_zero, List.zipIdx_cons, List.zipIdx_nil, List.forIn_cons, List.forIn_nil]
    refine wpAny_bind (wpAny_bind (zend_strict (s := ⟨y1, g, d, tk0, os⟩) D2 r2_1 fun y2 hy2 => ?_))
    replace hy2 : Heap.ExtBut i2 y1 y2 := hy2
    have k2 : ∀ c o, c ≠ z → c ≠ TO → c ≠ i1 → c ≠ i2 → c ≠ i3 → hp.get? c = some o → y2.get? c = some o := fun c o qz qT q1 q2 q3 e => hy2 c o q2 (k1 c o qz qT q1 q2 q3 e)
    have r3_2 : St3 n y2 := D3.frame _ _ _ r3_1 fun c hc o e => hy2 c o (fun q => S.s2_3 (q ▸ hc)) e
    refine wpAny_pure ?_
    refine wpAny_bind (wpAny_bind (zend_strict (s := ⟨y2, g, d, tk0, os⟩) D3 r3_2 fun y3 hy3 => ?_))
    replace hy3 : Heap.ExtBut i3 y2 y3 := hy3
    have k3 : ∀ c o, c ≠ z → c ≠ TO → c ≠ i1 → c ≠ i2 → c ≠ i3 → hp.get? c = some o → y3.get? c = some o := fun c o qz qT q1 q2 q3 e => hy3 c o q3 (k2 c o qz qT q1 q2 q3 e)
    refine wpAny_pure ?_
    refine wpAny_pure ?_
    exact wpAny_bind (wpAny_rule (stop_it (s := ⟨y3, g, d, tk0, os⟩) hh fun h2 e kk he => hE h2 e (fun c o qz qT q1 q2 q3 x => kk c o (k3 c o qz qT q1 q2 q3 x)) he))
theorem py_item3 {z TI TO i1 i2 i3 : Addr} {fp1 fp2 fp3 : List Addr} {n1 n2 n3 i : Nat} {P1 P2 P3 : Nat → Value → Prop} {St1 St2 St3 : Nat → Heap → Prop} {a1 a2 a3 : Value} {Q : Option Value → Shared → Prop} (S : Sep3 z TI TO i1 i2 i3 fp1 fp2 fp3) (D1 : Draws prog w A.in1 i1 fp1 n1 P1 St1) (D2 : Draws prog w A.in1 i2 fp2 n2 P2 St2) (D3 : Draws prog w A.in1 i3 fp3 n3 P3 St3)
    (hz : ZipO s.heap z TI TO .none b) (hTI : TupO s.heap TI #[.ref i1, .ref i2, .ref i3]) (hTO : TupO s.heap TO #[a1, a2, a3]) (st1 : St1 i s.heap) (st2 : St2 i s.heap) (st3 : St3 i s.heap) (hi1 : i < n1) (hi2 : i < n2) (hi3 : i < n3)
    (hQ : ∀ x1 x2 x3 h' tk, P1 i x1 → P2 i x2 → P3 i x3 → ZipO h' z TI TO (rawInt s.heap.objs.size) b → TupO h' TO #[x1, x2, x3] → St1 (i + 1) h' → St2 (i + 1) h' → St3 (i + 1) h' → TupO h' s.heap.objs.size #[x1, x2, x3] →
      (∀ c o, c ≠ z → c ≠ TO → c ≠ i1 → c ≠ i2 → c ≠ i3 → s.heap.get? c = some o → h'.get? c = some o) → Q (some (.ref s.heap.objs.size)) { s with heap := h', toks := tk }) : wpAny (model prog w) A (pyNext (.ref z)) Q E s := by
  have hT : s.TypeIs (.ref z) "zip" := ⟨_, hz, rfl⟩
  unfold pyNext
  refine wpAny_bind (wpAny_attempt (wpAny_callSpecial?_slot (name := Str.ofString "__next__") hT F.slot_zip_next (wpAny_call_entry F.slot_zip_next hT F.entry_zip_next ?_ (F.args_zip_next_1 _))))
  exact next_item3 S D1 D2 D3 hz hTI hTO st1 st2 st3 hi1 hi2 hi3 fun x1 x2 x3 h2 tk p1 p2 p3 q1 q2 u1 u2 u3 q3 q4 => wpAny_pure (hQ x1 x2 x3 h2 tk p1 p2 p3 q1 q2 u1 u2 u3 q3 q4)
theorem py_end3 {z TI TO i1 i2 i3 : Addr} {fp1 fp2 fp3 : List Addr} {n : Nat} {P1 P2 P3 : Nat → Value → Prop} {St1 St2 St3 : Nat → Heap → Prop} {a1 a2 a3 : Value} {Q : Option Value → Shared → Prop} (hh : A.handled = none) (S : Sep3 z TI TO i1 i2 i3 fp1 fp2 fp3) (D1 : Draws prog w A.in1 i1 fp1 n P1 St1) (D2 : Draws prog w A.in1 i2 fp2 n P2 St2) (D3 : Draws prog w A.in1 i3 fp3 n P3 St3)
    (hz : ZipO s.heap z TI TO .none b) (hTI : TupO s.heap TI #[.ref i1, .ref i2, .ref i3]) (hTO : TupO s.heap TO #[a1, a2, a3]) (st1 : St1 n s.heap) (st2 : St2 n s.heap) (st3 : St3 n s.heap)
    (hQ : ∀ h', (∀ c o, c ≠ z → c ≠ TO → c ≠ i1 → c ≠ i2 → c ≠ i3 → s.heap.get? c = some o → h'.get? c = some o) → Q none { s with heap := h' }) : wpAny (model prog w) A (pyNext (.ref z)) Q E s := by
  have hT : s.TypeIs (.ref z) "zip" := ⟨_, hz, rfl⟩
  unfold pyNext
  refine wpAny_bind (wpAny_attempt (wpAny_callSpecial?_slot (name := Str.ofString "__next__") hT F.slot_zip_next (wpAny_call_entry F.slot_zip_next hT F.entry_zip_next ?_ (F.args_zip_next_1 _))))
  refine next_end3 (A := A.in1) hh S D1 D2 D3 hz hTI hTO st1 st2 st3 fun h2 e kk he => ?_
  obtain ⟨o, ho, hc⟩ := he
  exact wpAny_bind (wpAny_isInstance (T := "StopIteration") (b := true) ⟨o, ho, hc⟩ isSubtype_stop (wpAny_pure (hQ _ kk)))
theorem typeCall_strict3 (v1 v2 v3 x : Value) : checkTypeCall "zip" ⟨[v1, v2, v3], [(Str.ofString "strict", x)]⟩ = pure () := by kernel_rfl
theorem newCall_strict3 (v1 v2 v3 x : Value) : checkBuiltinCall "zip.__new__" ⟨[.type "zip", v1, v2, v3], [(Str.ofString "strict", x)]⟩ = pure () := by kernel_rfl
theorem initArgs_strict3 (obj v1 v2 v3 x : Value) : argsOk "object.__init__" ⟨[obj, v1, v2, v3], [(Str.ofString "strict", x)]⟩ := by unfold argsOk; kernel_rfl
abbrev sT3 (h : Heap) (o1 o2 o3 : Obj) : Heap := ((((h.push o1).push o2).push o3).push { cls := .type "tuple", data := .seq #[.ref h.objs.size, .ref (h.push o1).objs.size, .ref ((h.push o1).push o2).objs.size] })
abbrev sO3 (h : Heap) (o1 o2 o3 : Obj) : Heap := (sT3 h o1 o2 o3).push { cls := .type "tuple", data := .seq #[.none, .none, .none] }
abbrev sZ3 (h : Heap) (o1 o2 o3 : Obj) : Heap := (sO3 h o1 o2 o3).push { cls := .type "zip", data := .fields #[.none, .bool false, .bool true, .ref (((h.push o1).push o2).push o3).objs.size, .ref (sT3 h o1 o2 o3).objs.size] }
theorem meets_strict3 {v1 v2 v3 : Value} {o1 o2 o3 : Obj} {G1 G2 G3 : Heap → Prop} (B1 : Begins v1 o1 G1) (B2 : Begins v2 o2 G2) (B3 : Begins v3 o3 G3) :
    Meets (Builtin.«zip.__new__» ⟨[.type "zip", v1, v2, v3], [(Str.ofString "strict", .bool true)]⟩) (fun _ R s => (G1 s.heap ∧ G2 s.heap ∧ G3 s.heap) ∧ R (.ok (.ret (.ref (sO3 s.heap o1 o2 o3).objs.size))) { s with heap := (sZ3 s.heap o1 o2 o3) }) :=
  .of_wp fun prog w A R s h => by
    obtain ⟨hp, g, d, tk, os⟩ := s
    obtain ⟨⟨h1, h2, h3⟩, h⟩ := h
    have hsub := sub_zip
    have e1 : (Str.ofString "strict" != ("strict" : Str)) = false := by decide +kernel
    have w1 : ∀ {A' : Around} {E : Value → Shared → Prop} {Q : Value → Shared → Prop}, Q (.ref hp.objs.size) ⟨(hp.push o1), g, d, tk, os⟩ → wpAny (model prog w) A' (pyIter v1) Q E ⟨hp, g, d, tk, os⟩ := fun q => B1.iter prog w _ _ ⟨hp, g, d, tk, os⟩ _ (B1.keeps _ _ h1 fun c u e => e) q
    have w2 : ∀ {A' : Around} {E : Value → Shared → Prop} {Q : Value → Shared → Prop}, Q (.ref (hp.push o1).objs.size) ⟨((hp.push o1).push o2), g, d, tk, os⟩ → wpAny (model prog w) A' (pyIter v2) Q E ⟨(hp.push o1), g, d, tk, os⟩ := fun q => B2.iter prog w _ _ ⟨(hp.push o1), g, d, tk, os⟩ _ (B2.keeps _ _ h2 fun c u e => (Heap.get?_push_of_some _ e)) q
    have w3 : ∀ {A' : Around} {E : Value → Shared → Prop} {Q : Value → Shared → Prop}, Q (.ref ((hp.push o1).push o2).objs.size) ⟨(((hp.push o1).push o2).push o3), g, d, tk, os⟩ → wpAny (model prog w) A' (pyIter v3) Q E ⟨((hp.push o1).push o2), g, d, tk, os⟩ := fun q => B3.iter prog w _ _ ⟨((hp.push o1).push o2), g, d, tk, os⟩ _ (B3.keeps _ _ h3 fun c u e => (Heap.get?_push_of_some _ (Heap.get?_push_of_some _ e))) q
    wp_walk using w1, w2, w3
    exact ⟨_, rfl, h⟩
/-- zip(.., strict=True) of 3: its new cells -/
theorem begins_strict3 {v1 v2 v3 : Value} {o1 o2 o3 : Obj} {G1 G2 G3 : Heap → Prop} {Q : Value → Shared → Prop} (B1 : Begins v1 o1 G1) (B2 : Begins v2 o2 G2) (B3 : Begins v3 o3 G3) (h1 : G1 s.heap) (h2 : G2 s.heap) (h3 : G3 s.heap)
    (h : ∀ h', ZipO h' (s.heap.objs.size + 5) (s.heap.objs.size + 3) (s.heap.objs.size + 4) .none true → TupO h' (s.heap.objs.size + 3) #[.ref s.heap.objs.size, .ref (s.heap.objs.size + 1), .ref (s.heap.objs.size + 2)] → TupO h' (s.heap.objs.size + 4) #[.none, .none, .none] → h'.get? s.heap.objs.size = some o1 → h'.get? (s.heap.objs.size + 1) = some o2 → h'.get? (s.heap.objs.size + 2) = some o3 → (∀ c o, s.heap.get? c = some o → h'.get? c = some o) → Q (.ref (s.heap.objs.size + 5)) { s with heap := h' }) :
    wpAny (model prog w) A (call (.type "zip") [v1, v2, v3] [(Str.ofString "strict", .bool true)]) Q E s := by
  refine callType_newKw F.called_zip (by decide) (typeCall_strict3 _ _ _ _) (newCall_strict3 _ _ _ _) (fun obj => initArgs_strict3 obj _ _ _ _) F.entry_zip_new (meets_strict3 B1 B2 B3) ⟨⟨h1, h2, h3⟩, ?_⟩
  have z1 : (s.heap.push o1).objs.size = s.heap.objs.size + 1 := by rw [Heap.size_push]
  have z2 : ((s.heap.push o1).push o2).objs.size = s.heap.objs.size + 2 := by rw [Heap.size_push, z1]
  have z3 : (((s.heap.push o1).push o2).push o3).objs.size = s.heap.objs.size + 3 := by rw [Heap.size_push, z2]
  have z4 : (sT3 s.heap o1 o2 o3).objs.size = s.heap.objs.size + 4 := by rw [Heap.size_push, z3]
  have z5 : (sO3 s.heap o1 o2 o3).objs.size = s.heap.objs.size + 5 := by rw [Heap.size_push, z4]
  have z6 : (sZ3 s.heap o1 o2 o3).objs.size = s.heap.objs.size + 6 := by rw [Heap.size_push, z5]
  have q0 : (sZ3 s.heap o1 o2 o3).get? s.heap.objs.size = some o1 := (Heap.get?_push_of_some _ (Heap.get?_push_of_some _ (Heap.get?_push_of_some _ (Heap.get?_push_of_some _ (Heap.get?_push_of_some _ (Heap.get?_push_size _ B1.free))))))
  have q1 : (sZ3 s.heap o1 o2 o3).get? (s.heap.push o1).objs.size = some o2 := (Heap.get?_push_of_some _ (Heap.get?_push_of_some _ (Heap.get?_push_of_some _ (Heap.get?_push_of_some _ (Heap.get?_push_size _ B2.free)))))
  rw [z1] at q1
  have q2 : (sZ3 s.heap o1 o2 o3).get? ((s.heap.push o1).push o2).objs.size = some o3 := (Heap.get?_push_of_some _ (Heap.get?_push_of_some _ (Heap.get?_push_of_some _ (Heap.get?_push_size _ B3.free))))
  rw [z2] at q2
  have q3 : (sZ3 s.heap o1 o2 o3).get? (((s.heap.push o1).push o2).push o3).objs.size = some ({ cls := .type "tuple", data := .seq #[.ref s.heap.objs.size, .ref (s.heap.push o1).objs.size, .ref ((s.heap.push o1).push o2).objs.size] } : Obj) := (Heap.get?_push_of_some _ (Heap.get?_push_of_some _ (Heap.get?_push_size _ rfl)))
  rw [z3] at q3
  have q4 : (sZ3 s.heap o1 o2 o3).get? (sT3 s.heap o1 o2 o3).objs.size = some ({ cls := .type "tuple", data := .seq #[.none, .none, .none] } : Obj) := (Heap.get?_push_of_some _ (Heap.get?_push_size _ rfl))
  rw [z4] at q4
  have q5 : (sZ3 s.heap o1 o2 o3).get? (sO3 s.heap o1 o2 o3).objs.size = some ({ cls := .type "zip", data := .fields #[.none, .bool false, .bool true, .ref (((s.heap.push o1).push o2).push o3).objs.size, .ref (sT3 s.heap o1 o2 o3).objs.size] } : Obj) := (Heap.get?_push_size _ rfl)
  rw [z5] at q5
  rw [z2, z1] at q3
  rw [z4, z3] at q5
  show _ ∧ _
  rw [z5]
  exact ⟨⟨_, q5, rfl⟩, h _ q5 q3 q4 q0 q1 q2 fun c o e => (Heap.get?_push_of_some _ (Heap.get?_push_of_some _ (Heap.get?_push_of_some _ (Heap.get?_push_of_some _ (Heap.get?_push_of_some _ (Heap.get?_push_of_some _ e))))))⟩
end
end CZ

namespace CZ
open PySem PySem.Spec PyProof.Rows L2
/-- a list (false) or a tuple (true) that is read -/
def SqK (K : PySem.W.Frag) (H : Hp) (p : Bool × Addr) (xs : List V) : Prop := if p.1 = true then SqT K H p.2 xs else SqL K H p.2 xs
def SqIt (h : Heap) (it : Addr) (p : Bool × Addr) (i : Nat) : Prop := if p.1 = true then h.IsTupleIter it p.2 i else h.IsListIter it p.2 i
def SeqIs (h : Heap) (p : Bool × Addr) (its : List Value) : Prop := if p.1 = true then h.IsTuple p.2 its.toArray else h.IsList p.2 its.toArray
/-- the iterator's object as it begins -/
def itO (p : Bool × Addr) : Obj := if p.1 = true then { cls := .type "tuple_iterator", data := .fields #[.ref p.2, .int 0 0] } else { cls := .type "list_iterator", data := .fields #[.ref p.2, .int 0 0] }
theorem SqIt.at {h h' : Heap} {it : Addr} {p : Bool × Addr} {i : Nat} (x : SqIt h it p i) (k : ∀ o, h.get? it = some o → h'.get? it = some o) : SqIt h' it p i := by
  obtain ⟨b, a⟩ := p
  cases b
  · exact Heap.IsListIter.at (show h.IsListIter it a i from x) k
  · exact Heap.IsTupleIter.at (show h.IsTupleIter it a i from x) k
theorem SqIt.obj {h : Heap} {it : Addr} {p : Bool × Addr} {i : Nat} (x : SqIt h it p i) : ∃ o, h.get? it = some o ∧ ∀ v, o.data ≠ .cell v := by
  obtain ⟨b, a⟩ := p
  cases b
  · obtain ⟨o, e, _, d⟩ := (show h.IsListIter it a i from x)
    exact ⟨o, e, fun v q => by rw [d] at q; cases q⟩
  · obtain ⟨o, e, _, d⟩ := (show h.IsTupleIter it a i from x)
    exact ⟨o, e, fun v q => by rw [d] at q; cases q⟩
theorem SqIt.begin {h : Heap} {it : Addr} {p : Bool × Addr} (e : h.get? it = some (itO p)) : SqIt h it p 0 := by
  obtain ⟨b, a⟩ := p
  cases b
  · exact ⟨_, e, rfl, rfl⟩
  · exact ⟨_, e, rfl, rfl⟩
theorem begins_of (p : Bool × Addr) (its : List Value) : Begins (.ref p.2) (itO p) (fun h => SeqIs h p its) := by
  obtain ⟨b, a⟩ := p
  cases b
  · exact begins_list a its.toArray
  · exact begins_tuple a its.toArray
theorem draws_of {prog : Program} {w : World} {A : Around} (hh : A.handled = none) (it : Addr) (p : Bool × Addr) (ne : p.2 ≠ it) (its : List Value) :
    Draws prog w A it [it, p.2] its.toArray.size (fun i v => its.toArray[i]? = some v) (fun i h => SqIt h it p i ∧ SeqIs h p its) := by
  obtain ⟨b, a⟩ := p
  cases b
  · exact Draws.list hh it a ne its.toArray
  · exact Draws.tuple hh it a ne its.toArray
section
variable {X : Cx} {pins : List (Addr × Obj)} {σ : L2.St} {H : Hp} {s : Shared} {p : Bool × Addr} {xs ys : List V}
theorem sq_seq (I : Inv X pins σ H s) (h : SqK X.K H p xs) : ∃ its : List Value, Vals xs its ∧ SeqIs s.heap p its ∧ p.2 < s.heap.objs.size := by
  obtain ⟨b, a⟩ := p
  cases b
  · obtain ⟨its, rv, q, _⟩ := I.list (show SqL X.K H a xs from h)
    exact ⟨its, rv, q.isList, q.lt⟩
  · obtain ⟨its, rv, q, _⟩ := I.tuple (show SqT X.K H a xs from h)
    obtain ⟨o, ho, _⟩ := id q
    exact ⟨its, rv, q, Heap.lt_size ho⟩
theorem sq_inj (I : Inv X pins σ H s) (h : SqK X.K H p xs) (h2 : SqK X.K H p ys) : xs = ys := by
  obtain ⟨b, a⟩ := p
  cases b
  · exact I.list_inj (show SqL X.K H a xs from h) h2
  · exact I.tuple_inj (show SqT X.K H a xs from h) h2
end
/-- what a zip of lists and tuples of one length gives -/
def ItZ (K : PySem.W.Frag) (l : List (Bool × Addr)) : It :=
  ⟨fun i H => ∃ vs : List V, Paired (fun p v => ∃ xs, SqK K H p xs ∧ xs[i]? = some v) l vs,
    fun i H v H2 => ∃ (T : Addr) (vs : List V), v = .ref T ∧ H T = none ∧ H2 = upd H T (.tup vs) ∧ Paired (fun p v => ∀ xs, SqK K H p xs → xs[i]? = some v) l vs,
    fun i H => ∀ p ∈ l, ∃ xs, SqK K H p xs ∧ xs.length = i⟩
def YRow (xss : List (List V)) : Nat → Hp → V → Hp → Prop := fun i H v H2 => ∃ (T : Addr) (vs : List V), v = .ref T ∧ H T = none ∧ H2 = upd H T (.tup vs) ∧ Paired (fun (xs : List V) v => xs[i]? = some v) xss vs
theorem pair_go {K : PySem.W.Frag} {H : Hp} {i : Nat} : ∀ {l : List (Bool × Addr)} {xss : List (List V)}, Paired (fun p xs => SqK K H p xs) l xss → (∀ xs ∈ xss, i < xs.length) → ∃ vs, Paired (fun p v => ∃ xs, SqK K H p xs ∧ xs[i]? = some v) l vs
  | _, _, .nil, _ => ⟨[], .nil⟩
  | _, _, .cons (b := xs) r t, h => by
    obtain ⟨vs, q⟩ := pair_go t fun ys hy => h ys (List.mem_cons_of_mem _ hy)
    have hi := h xs List.mem_cons_self
    exact ⟨xs[i] :: vs, .cons ⟨xs, r, List.getElem?_eq_getElem hi⟩ q⟩
theorem pair_row {K : PySem.W.Frag} {H : Hp} {i : Nat} : ∀ {l : List (Bool × Addr)} {xss : List (List V)} {vs : List V}, Paired (fun p xs => SqK K H p xs) l xss → Paired (fun p v => ∀ xs, SqK K H p xs → xs[i]? = some v) l vs → Paired (fun (xs : List V) v => xs[i]? = some v) xss vs
  | _, _, _, .nil, .nil => .nil
  | _, _, _, .cons r t, .cons q u => .cons (q _ r) (pair_row t u)
theorem pair_stop {K : PySem.W.Frag} {H : Hp} {n : Nat} : ∀ {l : List (Bool × Addr)} {xss : List (List V)}, Paired (fun p xs => SqK K H p xs) l xss → (∀ xs ∈ xss, xs.length = n) → ∀ p ∈ l, ∃ xs, SqK K H p xs ∧ xs.length = n
  | _, _, .nil, _, _, hp => nomatch hp
  | _, _, .cons r t, h, p, hp => by
    rcases List.mem_cons.mp hp with e | hp
    · rw [e]
      exact ⟨_, r, h _ List.mem_cons_self⟩
    · exact pair_stop t (fun ys hy => h ys (List.mem_cons_of_mem _ hy)) p hp
theorem walk_rows {K : PySem.W.Frag} {l : List (Bool × Addr)} {xss : List (List V)} {n : Nat} (hn : ∀ xs ∈ xss, xs.length = n) : Walk (ItZ K l) n (fun H => Paired (fun p xs => SqK K H p xs) l xss) (YRow xss) :=
  ⟨fun i H hi q => pair_go q fun xs hx => by rw [hn xs hx]; exact hi, fun H q => pair_stop q hn, fun i H x H2 _ q y => by
    obtain ⟨T, vs, h1, h2, h3, h4⟩ := y
    exact ⟨T, vs, h1, h2, h3, pair_row q h4⟩⟩
/-- the reading of zip(..): which are tuples is told by the flags -/
def iZ (K : PySem.W.Frag) (fl : List Bool) (ta : TA) : TI := fun σ H R => ta σ H fun vs H1 => ∃ l : List Addr, vs = l.map V.ref ∧ l.length = fl.length ∧ (∀ p ∈ fl.zip l, ∃ xs, SqK K H1 p xs) ∧ R (ItZ K (fl.zip l)) H1
theorem nin_new {M a : Nat} (j k : Nat) (h : a < M) (hjk : j ≠ k) : M + j ∉ [M + k, a] := by
  simp only [List.mem_cons, List.mem_nil_iff, or_false, not_or]
  omega
theorem looks_ty {M : Model} {h : Heap} (T : String) (_ : True) : ∃ k, (k = Keeper.frame ∨ k = Keeper.machine ∨ k = Keeper.boundFrame) ∧ PySem.W.Looks M h (keeperOf (.type T)) k := ⟨_, .inr (.inl rfl), PySem.W.Looks.of_pure rfl⟩
end CZ

namespace CZ
open PySem PySem.Spec PyProof.Rows L2
theorem turn_z2 {P : Program} {w : World} {K : PySem.W.Frag} {elts : List Expr} {kk : Nat} {tpos : Pos} {z TI TO i1 i2 : Addr} {p1 p2 : Bool × Addr} {b : Bool} (S : Sep2 z TI TO i1 i2 [i1, p1.2] [i2, p2.2]) (ne1 : p1.2 ≠ i1) (ne2 : p2.2 ≠ i2) :
    Turn P w K (.Tuple elts kk tpos) (ItZ K [p1, p2]) [z, TI, TO, i1, i2] z (fun i h => ZipO h z TI TO .none b ∧ TupO h TI #[.ref i1, .ref i2] ∧ (∃ a1 a2, TupO h TO #[a1, a2]) ∧ SqIt h i1 p1 i ∧ SqIt h i2 p2 i) where
  mem := by simp
  obj := fun i h st c hc => by
    obtain ⟨hz, hTI, ⟨a1, a2, hTO⟩, h1, h2⟩ := st
    have e : c = z ∨ c = TI ∨ c = TO ∨ c = i1 ∨ c = i2 := by simpa using hc
    rcases e with q | q | q | q | q
    · rw [q]; exact ⟨_, hz, fun v q => nomatch q⟩
    · rw [q]; exact ⟨_, hTI, fun v q => nomatch q⟩
    · rw [q]; exact ⟨_, hTO, fun v q => nomatch q⟩
    · rw [q]; exact h1.obj
    · rw [q]; exact h2.obj
  keep := fun i h h2 st k => by
    obtain ⟨hz, hTI, ⟨a1, a2, hTO⟩, h1, h2⟩ := st
    exact ⟨k z (by simp) _ hz, k TI (by simp) _ hTI, ⟨a1, a2, k TO (by simp) _ hTO⟩, h1.at fun o q => k i1 (by simp) o q, h2.at fun o q => k i2 (by simp) o q⟩
  item := by
    intro X hP hw hK hc i pins s σ H E I hf st hg
    subst hP hw hK
    obtain ⟨hz, hTI, ⟨a1, a2, hTO⟩, h1, h2⟩ := st
    obtain ⟨vs, hv⟩ := hg
    cases hv with
    | cons r1 hv1 =>
      rename_i v1 ws1
      obtain ⟨xs1, hq1, hx1⟩ := r1
      obtain ⟨its1, rv1, q1, _⟩ := sq_seq I hq1
      obtain ⟨u1, hu1, ru1⟩ := rv1.get hx1
      have g1 : its1.toArray[i]? = some u1 := by simpa using hu1
      have l1 : i < its1.toArray.size := by have := (List.getElem?_eq_some_iff.mp hu1).1; simpa using this
      cases hv1 with
      | cons r2 hv2 =>
        rename_i v2 ws2
        obtain ⟨xs2, hq2, hx2⟩ := r2
        obtain ⟨its2, rv2, q2, _⟩ := sq_seq I hq2
        obtain ⟨u2, hu2, ru2⟩ := rv2.get hx2
        have g2 : its2.toArray[i]? = some u2 := by simpa using hu2
        have l2 : i < its2.toArray.size := by have := (List.getElem?_eq_some_iff.mp hu2).1; simpa using this
        cases hv2
        have hzl : z < s.heap.objs.size := Heap.lt_size hz
        refine py_item2 S (draws_of (A := X.A.in1) (I.ok.hd hc) i1 p1 ne1 its1) (draws_of (A := X.A.in1) (I.ok.hd hc) i2 p2 ne2 its2) hz hTI hTO ⟨h1, q1⟩ ⟨h2, q2⟩ l1 l2 fun x1 x2 hA tk y1 y2 z2 TO2 n1 n2 hT hk => ?_
        obtain rfl : u1 = x1 := Option.some.inj (g1.symm.trans y1)
        obtain rfl : u2 = x2 := Option.some.inj (g2.symm.trans y2)
        refine ⟨_, rfl, go_zip (s := { s with heap := hA, toks := tk }) z2 fun hB z3 sb => ?_⟩
        replace sb : Heap.SameBut z hA hB := sb
        have hT2 : hB.get? s.heap.objs.size = some { cls := .type "tuple", data := .seq #[u1, u2] } := (sb.2 _ (Nat.ne_of_gt hzl)).trans hT
        have new : ObjOk X.prog X.w (upd H s.heap.objs.size (.tup [v1, v2])) hB s.heap.objs.size (.tup [v1, v2]) := ⟨by show 2 ≤ sizeLine; decide, [u1, u2], (.cons ru1 (.cons ru2 .nil)), ⟨_, hT2, rfl, _, rfl⟩⟩
        have I1 : Inv X pins σ (upd H s.heap.objs.size (.tup [v1, v2])) { s with heap := hB, toks := tk } := I.turnedNew (t' := tk) (ch := [z, TI, TO, i1, i2]) (fun c o hb q => (sb.2 c (fun q => hb (by simp [q]))).trans (hk c o (fun q => hb (by simp [q])) (fun q => hb (by simp [q])) (fun q => hb (by simp [q])) (fun q => hb (by simp [q])) q)) hf (Nat.le_refl _) new
        refine ⟨.ref s.heap.objs.size, _, I1, rfl, ⟨_, _, rfl, I.hok.fresh (Nat.le_refl _), rfl, (.cons (fun l hl => by rw [sq_inj I hl hq1]; exact hx1) (.cons (fun l hl => by rw [sq_inj I hl hq2]; exact hx2) .nil))⟩, ⟨z3, (sb.2 _ S.zTI.symm).trans (hk _ _ S.zTI.symm S.TOTI.symm S.I1 S.I2 hTI), ⟨u1, u2, (sb.2 _ S.zTO.symm).trans TO2⟩, (n1.1.at fun o q => (sb.2 _ (fun q => S.z1 (by rw [← q]; exact S.m1))).trans q), (n2.1.at fun o q => (sb.2 _ (fun q => S.z2 (by rw [← q]; exact S.m2))).trans q)⟩, fun c hcm => ?_⟩
        have hlt : c < s.heap.objs.size := by
          have e : c = z ∨ c = TI ∨ c = TO ∨ c = i1 ∨ c = i2 := by simpa using hcm
          rcases e with q | q | q | q | q
          · rw [q]; exact hzl
          · rw [q]; exact Heap.lt_size hTI
          · rw [q]; exact Heap.lt_size hTO
          · rw [q]; obtain ⟨_, e1, _⟩ := h1.obj; exact Heap.lt_size e1
          · rw [q]; obtain ⟨_, e1, _⟩ := h2.obj; exact Heap.lt_size e1
        rw [upd_ne (Nat.ne_of_lt hlt)]
        exact (hf c hcm).1
  done := by
    intro X hP hw hK hc i pins s σ H E I hf st hg
    subst hP hw hK
    obtain ⟨hz, hTI, ⟨a1, a2, hTO⟩, h1, h2⟩ := st
    obtain ⟨xs1, hq1, hx1⟩ := hg p1 (by simp)
    obtain ⟨its1, rv1, q1, _⟩ := sq_seq I hq1
    have l1 : its1.toArray.size = i := by have := rv1.length; simp; omega
    have D1 := draws_of (prog := X.prog) (w := X.w) (A := X.A.in1) (I.ok.hd hc) i1 p1 ne1 its1
    rw [l1] at D1
    obtain ⟨xs2, hq2, hx2⟩ := hg p2 (by simp)
    obtain ⟨its2, rv2, q2, _⟩ := sq_seq I hq2
    have l2 : its2.toArray.size = i := by have := rv2.length; simp; omega
    have D2 := draws_of (prog := X.prog) (w := X.w) (A := X.A.in1) (I.ok.hd hc) i2 p2 ne2 its2
    rw [l2] at D2
    exact py_end2 (I.ok.hd hc) S D1 D2 hz hTI hTO ⟨h1, q1⟩ ⟨h2, q2⟩ fun h2 hk => ⟨rfl, I.turnedL (t' := s.toks) (ch := [z, TI, TO, i1, i2]) (fun c o hb q => hk c o (fun q => hb (by simp [q])) (fun q => hb (by simp [q])) (fun q => hb (by simp [q])) (fun q => hb (by simp [q])) q) hf⟩
  self := fun A i s Q E st h => iter_zip st.1 h
theorem sep_new2 {M : Nat} {p1 p2 : Bool × Addr} (h1 : p1.2 < M) (h2 : p2.2 < M) : Sep2 (M + 4) (M + 2) (M + 3) M (M + 1) [M, p1.2] [M + 1, p2.2] where
  zTO := by show (M + 4 : Nat) ≠ M + 3; omega
  zTI := by show (M + 4 : Nat) ≠ M + 2; omega
  TOTI := by show (M + 3 : Nat) ≠ M + 2; omega
  m1 := by simp
  z1 := nin_new (a := p1.2) 4 0 h1 (by decide)
  T1 := nin_new (a := p1.2) 3 0 h1 (by decide)
  I1 := by show (M + 2 : Nat) ≠ M; omega
  s2_1 := nin_new (a := p1.2) 1 0 h1 (by decide)
  m2 := by simp
  z2 := nin_new (a := p2.2) 4 1 h2 (by decide)
  T2 := nin_new (a := p2.2) 3 1 h2 (by decide)
  I2 := by show (M + 2 : Nat) ≠ M + 1; omega
  s1_2 := nin_new (a := p2.2) 0 1 h2 (by decide)
theorem pi_z2s {X : Cx} {e1 e2 : Expr} {ta : TA} {p pos tpos : Pos} {elts : List Expr} {kk : Nat} {jj : Nat} {kp kp2 : Pos} {fl : List Bool} (hfl : fl.length = 2) (hg : Gl X "zip") (hm : X.mg "zip" = none) (ha : PA X [e1, e2] ta)
    (hs : starEach [e1, e2] X.env = (false, eval e1 X.env) :: starEach [e2] X.env := by rfl) (hpl : (backTo pos (starEach [e2] X.env)).any (·.1) = false := by rfl) :
    PI X (.Tuple elts kk tpos) (.Call (.Name "zip" p) [e1, e2] [⟨some "strict", .Constant (.bool true) jj kp, kp2⟩] pos) (iZ X.K fl ta) := by
  refine ⟨fun pins s σ H R I h => ?_⟩
  refine wpAny_Call_Name_kw (ld_blt I hg hm PyProof.Rows.boot_zip ?_)
  refine PySem.W.callWith_of (P := fun _ => True) ?_ (fun h _ => looks_ty "zip" True.intro) ?_
  · show ((backTo pos (starEach _ X.env)).any (·.1) || false) = false
    rw [hs, Bool.or_false]
    exact hpl
  have he : backTo pos (starEach [e1, e2] X.env) = (false, eval e1 X.env) :: backTo pos (starEach [e2] X.env) := by rw [hs]; rfl
  rw [he]
  refine PyProof.Rows.evalArgs_kwB rfl ?_
  rw [← he]
  refine thn (ha.run pos pins s σ H _ I h) fun us s0 ⟨vs, H1, I0, r1, q1⟩ => ?_
  refine PyProof.Rows.kws_cons (Constant_bool (PyProof.Rows.kws_nil ⟨True.intro, ?_⟩))
  have I1 := I0
  obtain ⟨l, ev, el, hl, q1⟩ := q1
  subst ev
  obtain ⟨b1, b2, rfl⟩ : ∃ b1 b2 : Bool, fl = [b1, b2] := match fl, hfl with | [_, _], _ => ⟨_, _, rfl⟩
  obtain ⟨c1, c2, rfl⟩ : ∃ c1 c2 : Addr, l = [c1, c2] := match l, el with | [_, _], _ => ⟨_, _, rfl⟩
  cases r1 with
  | cons r_1 rr1 =>
    cases r_1
    cases rr1 with
    | cons r_2 rr2 =>
      cases r_2
      cases rr2
      obtain ⟨xs1, hq1⟩ := hl (b1, c1) (by simp)
      obtain ⟨its1, rv1, g1, lt1⟩ := sq_seq I1 hq1
      obtain ⟨xs2, hq2⟩ := hl (b2, c2) (by simp)
      obtain ⟨its2, rv2, g2, lt2⟩ := sq_seq I1 hq2
      have frs : ∀ c, c ∈ [s0.heap.objs.size + 4, s0.heap.objs.size + 2, s0.heap.objs.size + 3, s0.heap.objs.size, s0.heap.objs.size + 1] → FpOk X pins H1 c := fun c hcm => by
        have e : c = s0.heap.objs.size + 4 ∨ c = s0.heap.objs.size + 2 ∨ c = s0.heap.objs.size + 3 ∨ c = s0.heap.objs.size ∨ c = s0.heap.objs.size + 1 := by simpa using hcm
        have hle : s0.heap.objs.size ≤ c := by
          rcases e with q | q | q | q | q
          · rw [q]; exact Nat.le_add_right _ _
          · rw [q]; exact Nat.le_add_right _ _
          · rw [q]; exact Nat.le_add_right _ _
          · rw [q]; exact Nat.le_refl _
          · rw [q]; exact Nat.le_add_right _ _
        exact I1.fpOk hle (I1.hok.fresh hle)
      refine begins_strict2 (begins_of (b1, c1) its1) (begins_of (b2, c2) its2) g1 g2 fun hA hz hTI hTO y1 y2 kk => iter_zip hz ?_
      have I2 : Inv X pins σ H1 { s0 with heap := hA } := I1.kept (t' := s0.toks) kk
      exact ⟨_, [s0.heap.objs.size + 4, s0.heap.objs.size + 2, s0.heap.objs.size + 3, s0.heap.objs.size, s0.heap.objs.size + 1], _, _, H1, rfl, I2, turn_z2 (sep_new2 lt1 lt2) (Nat.ne_of_lt lt1) (Nat.ne_of_lt (Nat.lt_of_lt_of_le lt2 (Nat.le_add_right _ 1))), ⟨hz, hTI, ⟨_, _, hTO⟩, SqIt.begin y1, SqIt.begin y2⟩, frs, q1⟩
theorem pi_z2 {X : Cx} {e1 e2 : Expr} {ta : TA} {p pos tpos : Pos} {elts : List Expr} {kk : Nat} {fl : List Bool} (hfl : fl.length = 2) (hg : Gl X "zip") (hm : X.mg "zip" = none) (ha : PA X [e1, e2] ta)
    (hs : starEach [e1, e2] X.env = (false, eval e1 X.env) :: starEach [e2] X.env := by rfl) (hpl : (backTo pos (starEach [e2] X.env)).any (·.1) = false := by rfl) :
    PI X (.Tuple elts kk tpos) (.Call (.Name "zip" p) [e1, e2] [] pos) (iZ X.K fl ta) := by
  refine ⟨fun pins s σ H R I h => ?_⟩
  refine Call_ (ld_blt I hg hm PyProof.Rows.boot_zip (PyProof.Rows.callWith_type1 (thn (ha.run pos pins s σ H _ I h) fun us s0 ⟨vs, H1, I1, r1, q1⟩ => ?_) hs hpl))
  obtain ⟨l, ev, el, hl, q1⟩ := q1
  subst ev
  obtain ⟨b1, b2, rfl⟩ : ∃ b1 b2 : Bool, fl = [b1, b2] := match fl, hfl with | [_, _], _ => ⟨_, _, rfl⟩
  obtain ⟨c1, c2, rfl⟩ : ∃ c1 c2 : Addr, l = [c1, c2] := match l, el with | [_, _], _ => ⟨_, _, rfl⟩
  cases r1 with
  | cons r_1 rr1 =>
    cases r_1
    cases rr1 with
    | cons r_2 rr2 =>
      cases r_2
      cases rr2
      obtain ⟨xs1, hq1⟩ := hl (b1, c1) (by simp)
      obtain ⟨its1, rv1, g1, lt1⟩ := sq_seq I1 hq1
      obtain ⟨xs2, hq2⟩ := hl (b2, c2) (by simp)
      obtain ⟨its2, rv2, g2, lt2⟩ := sq_seq I1 hq2
      have frs : ∀ c, c ∈ [s0.heap.objs.size + 4, s0.heap.objs.size + 2, s0.heap.objs.size + 3, s0.heap.objs.size, s0.heap.objs.size + 1] → FpOk X pins H1 c := fun c hcm => by
        have e : c = s0.heap.objs.size + 4 ∨ c = s0.heap.objs.size + 2 ∨ c = s0.heap.objs.size + 3 ∨ c = s0.heap.objs.size ∨ c = s0.heap.objs.size + 1 := by simpa using hcm
        have hle : s0.heap.objs.size ≤ c := by
          rcases e with q | q | q | q | q
          · rw [q]; exact Nat.le_add_right _ _
          · rw [q]; exact Nat.le_add_right _ _
          · rw [q]; exact Nat.le_add_right _ _
          · rw [q]; exact Nat.le_refl _
          · rw [q]; exact Nat.le_add_right _ _
        exact I1.fpOk hle (I1.hok.fresh hle)
      refine zip_begins2 (begins_of (b1, c1) its1) (begins_of (b2, c2) its2) g1 g2 fun hA hz hTI hTO y1 y2 _ kk => iter_zip (b := false) hz ?_
      have I2 : Inv X pins σ H1 { s0 with heap := hA } := I1.kept (t' := s0.toks) kk
      exact ⟨_, [s0.heap.objs.size + 4, s0.heap.objs.size + 2, s0.heap.objs.size + 3, s0.heap.objs.size, s0.heap.objs.size + 1], _, _, H1, rfl, I2, turn_z2 (sep_new2 lt1 lt2) (Nat.ne_of_lt lt1) (Nat.ne_of_lt (Nat.lt_of_lt_of_le lt2 (Nat.le_add_right _ 1))), ⟨hz, hTI, ⟨_, _, hTO⟩, SqIt.begin y1, SqIt.begin y2⟩, frs, q1⟩
theorem turn_z3 {P : Program} {w : World} {K : PySem.W.Frag} {elts : List Expr} {kk : Nat} {tpos : Pos} {z TI TO i1 i2 i3 : Addr} {p1 p2 p3 : Bool × Addr} {b : Bool} (S : Sep3 z TI TO i1 i2 i3 [i1, p1.2] [i2, p2.2] [i3, p3.2]) (ne1 : p1.2 ≠ i1) (ne2 : p2.2 ≠ i2) (ne3 : p3.2 ≠ i3) :
    Turn P w K (.Tuple elts kk tpos) (ItZ K [p1, p2, p3]) [z, TI, TO, i1, i2, i3] z (fun i h => ZipO h z TI TO .none b ∧ TupO h TI #[.ref i1, .ref i2, .ref i3] ∧ (∃ a1 a2 a3, TupO h TO #[a1, a2, a3]) ∧ SqIt h i1 p1 i ∧ SqIt h i2 p2 i ∧ SqIt h i3 p3 i) where
  mem := by simp
  obj := fun i h st c hc => by
    obtain ⟨hz, hTI, ⟨a1, a2, a3, hTO⟩, h1, h2, h3⟩ := st
    have e : c = z ∨ c = TI ∨ c = TO ∨ c = i1 ∨ c = i2 ∨ c = i3 := by simpa using hc
    rcases e with q | q | q | q | q | q
    · rw [q]; exact ⟨_, hz, fun v q => nomatch q⟩
    · rw [q]; exact ⟨_, hTI, fun v q => nomatch q⟩
    · rw [q]; exact ⟨_, hTO, fun v q => nomatch q⟩
    · rw [q]; exact h1.obj
    · rw [q]; exact h2.obj
    · rw [q]; exact h3.obj
  keep := fun i h h2 st k => by
    obtain ⟨hz, hTI, ⟨a1, a2, a3, hTO⟩, h1, h2, h3⟩ := st
    exact ⟨k z (by simp) _ hz, k TI (by simp) _ hTI, ⟨a1, a2, a3, k TO (by simp) _ hTO⟩, h1.at fun o q => k i1 (by simp) o q, h2.at fun o q => k i2 (by simp) o q, h3.at fun o q => k i3 (by simp) o q⟩
  item := by
    intro X hP hw hK hc i pins s σ H E I hf st hg
    subst hP hw hK
    obtain ⟨hz, hTI, ⟨a1, a2, a3, hTO⟩, h1, h2, h3⟩ := st
    obtain ⟨vs, hv⟩ := hg
    cases hv with
    | cons r1 hv1 =>
      rename_i v1 ws1
      obtain ⟨xs1, hq1, hx1⟩ := r1
      obtain ⟨its1, rv1, q1, _⟩ := sq_seq I hq1
      obtain ⟨u1, hu1, ru1⟩ := rv1.get hx1
      have g1 : its1.toArray[i]? = some u1 := by simpa using hu1
      have l1 : i < its1.toArray.size := by have := (List.getElem?_eq_some_iff.mp hu1).1; simpa using this
      cases hv1 with
      | cons r2 hv2 =>
        rename_i v2 ws2
        obtain ⟨xs2, hq2, hx2⟩ := r2
        obtain ⟨its2, rv2, q2, _⟩ := sq_seq I hq2
        obtain ⟨u2, hu2, ru2⟩ := rv2.get hx2
        have g2 : its2.toArray[i]? = some u2 := by simpa using hu2
        have l2 : i < its2.toArray.size := by have := (List.getElem?_eq_some_iff.mp hu2).1; simpa using this
        cases hv2 with
        | cons r3 hv3 =>
          rename_i v3 ws3
          obtain ⟨xs3, hq3, hx3⟩ := r3
          obtain ⟨its3, rv3, q3, _⟩ := sq_seq I hq3
          obtain ⟨u3, hu3, ru3⟩ := rv3.get hx3
          have g3 : its3.toArray[i]? = some u3 := by simpa using hu3
          have l3 : i < its3.toArray.size := by have := (List.getElem?_eq_some_iff.mp hu3).1; simpa using this
          cases hv3
          have hzl : z < s.heap.objs.size := Heap.lt_size hz
          refine py_item3 S (draws_of (A := X.A.in1) (I.ok.hd hc) i1 p1 ne1 its1) (draws_of (A := X.A.in1) (I.ok.hd hc) i2 p2 ne2 its2) (draws_of (A := X.A.in1) (I.ok.hd hc) i3 p3 ne3 its3) hz hTI hTO ⟨h1, q1⟩ ⟨h2, q2⟩ ⟨h3, q3⟩ l1 l2 l3 fun x1 x2 x3 hA tk y1 y2 y3 z2 TO2 n1 n2 n3 hT hk => ?_
          obtain rfl : u1 = x1 := Option.some.inj (g1.symm.trans y1)
          obtain rfl : u2 = x2 := Option.some.inj (g2.symm.trans y2)
          obtain rfl : u3 = x3 := Option.some.inj (g3.symm.trans y3)
          refine ⟨_, rfl, go_zip (s := { s with heap := hA, toks := tk }) z2 fun hB z3 sb => ?_⟩
          replace sb : Heap.SameBut z hA hB := sb
          have hT2 : hB.get? s.heap.objs.size = some { cls := .type "tuple", data := .seq #[u1, u2, u3] } := (sb.2 _ (Nat.ne_of_gt hzl)).trans hT
          have new : ObjOk X.prog X.w (upd H s.heap.objs.size (.tup [v1, v2, v3])) hB s.heap.objs.size (.tup [v1, v2, v3]) := ⟨by show 3 ≤ sizeLine; decide, [u1, u2, u3], (.cons ru1 (.cons ru2 (.cons ru3 .nil))), ⟨_, hT2, rfl, _, rfl⟩⟩
          have I1 : Inv X pins σ (upd H s.heap.objs.size (.tup [v1, v2, v3])) { s with heap := hB, toks := tk } := I.turnedNew (t' := tk) (ch := [z, TI, TO, i1, i2, i3]) (fun c o hb q => (sb.2 c (fun q => hb (by simp [q]))).trans (hk c o (fun q => hb (by simp [q])) (fun q => hb (by simp [q])) (fun q => hb (by simp [q])) (fun q => hb (by simp [q])) (fun q => hb (by simp [q])) q)) hf (Nat.le_refl _) new
          refine ⟨.ref s.heap.objs.size, _, I1, rfl, ⟨_, _, rfl, I.hok.fresh (Nat.le_refl _), rfl, (.cons (fun l hl => by rw [sq_inj I hl hq1]; exact hx1) (.cons (fun l hl => by rw [sq_inj I hl hq2]; exact hx2) (.cons (fun l hl => by rw [sq_inj I hl hq3]; exact hx3) .nil)))⟩, ⟨z3, (sb.2 _ S.zTI.symm).trans (hk _ _ S.zTI.symm S.TOTI.symm S.I1 S.I2 S.I3 hTI), ⟨u1, u2, u3, (sb.2 _ S.zTO.symm).trans TO2⟩, (n1.1.at fun o q => (sb.2 _ (fun q => S.z1 (by rw [← q]; exact S.m1))).trans q), (n2.1.at fun o q => (sb.2 _ (fun q => S.z2 (by rw [← q]; exact S.m2))).trans q), (n3.1.at fun o q => (sb.2 _ (fun q => S.z3 (by rw [← q]; exact S.m3))).trans q)⟩, fun c hcm => ?_⟩
          have hlt : c < s.heap.objs.size := by
            have e : c = z ∨ c = TI ∨ c = TO ∨ c = i1 ∨ c = i2 ∨ c = i3 := by simpa using hcm
            rcases e with q | q | q | q | q | q
            · rw [q]; exact hzl
            · rw [q]; exact Heap.lt_size hTI
            · rw [q]; exact Heap.lt_size hTO
            · rw [q]; obtain ⟨_, e1, _⟩ := h1.obj; exact Heap.lt_size e1
            · rw [q]; obtain ⟨_, e1, _⟩ := h2.obj; exact Heap.lt_size e1
            · rw [q]; obtain ⟨_, e1, _⟩ := h3.obj; exact Heap.lt_size e1
          rw [upd_ne (Nat.ne_of_lt hlt)]
          exact (hf c hcm).1
  done := by
    intro X hP hw hK hc i pins s σ H E I hf st hg
    subst hP hw hK
    obtain ⟨hz, hTI, ⟨a1, a2, a3, hTO⟩, h1, h2, h3⟩ := st
    obtain ⟨xs1, hq1, hx1⟩ := hg p1 (by simp)
    obtain ⟨its1, rv1, q1, _⟩ := sq_seq I hq1
    have l1 : its1.toArray.size = i := by have := rv1.length; simp; omega
    have D1 := draws_of (prog := X.prog) (w := X.w) (A := X.A.in1) (I.ok.hd hc) i1 p1 ne1 its1
    rw [l1] at D1
    obtain ⟨xs2, hq2, hx2⟩ := hg p2 (by simp)
    obtain ⟨its2, rv2, q2, _⟩ := sq_seq I hq2
    have l2 : its2.toArray.size = i := by have := rv2.length; simp; omega
    have D2 := draws_of (prog := X.prog) (w := X.w) (A := X.A.in1) (I.ok.hd hc) i2 p2 ne2 its2
    rw [l2] at D2
    obtain ⟨xs3, hq3, hx3⟩ := hg p3 (by simp)
    obtain ⟨its3, rv3, q3, _⟩ := sq_seq I hq3
    have l3 : its3.toArray.size = i := by have := rv3.length; simp; omega
    have D3 := draws_of (prog := X.prog) (w := X.w) (A := X.A.in1) (I.ok.hd hc) i3 p3 ne3 its3
    rw [l3] at D3
    exact py_end3 (I.ok.hd hc) S D1 D2 D3 hz hTI hTO ⟨h1, q1⟩ ⟨h2, q2⟩ ⟨h3, q3⟩ fun h2 hk => ⟨rfl, I.turnedL (t' := s.toks) (ch := [z, TI, TO, i1, i2, i3]) (fun c o hb q => hk c o (fun q => hb (by simp [q])) (fun q => hb (by simp [q])) (fun q => hb (by simp [q])) (fun q => hb (by simp [q])) (fun q => hb (by simp [q])) q) hf⟩
  self := fun A i s Q E st h => iter_zip st.1 h
theorem sep_new3 {M : Nat} {p1 p2 p3 : Bool × Addr} (h1 : p1.2 < M) (h2 : p2.2 < M) (h3 : p3.2 < M) : Sep3 (M + 5) (M + 3) (M + 4) M (M + 1) (M + 2) [M, p1.2] [M + 1, p2.2] [M + 2, p3.2] where
  zTO := by show (M + 5 : Nat) ≠ M + 4; omega
  zTI := by show (M + 5 : Nat) ≠ M + 3; omega
  TOTI := by show (M + 4 : Nat) ≠ M + 3; omega
  m1 := by simp
  z1 := nin_new (a := p1.2) 5 0 h1 (by decide)
  T1 := nin_new (a := p1.2) 4 0 h1 (by decide)
  I1 := by show (M + 3 : Nat) ≠ M; omega
  s2_1 := nin_new (a := p1.2) 1 0 h1 (by decide)
  s3_1 := nin_new (a := p1.2) 2 0 h1 (by decide)
  m2 := by simp
  z2 := nin_new (a := p2.2) 5 1 h2 (by decide)
  T2 := nin_new (a := p2.2) 4 1 h2 (by decide)
  I2 := by show (M + 3 : Nat) ≠ M + 1; omega
  s1_2 := nin_new (a := p2.2) 0 1 h2 (by decide)
  s3_2 := nin_new (a := p2.2) 2 1 h2 (by decide)
  m3 := by simp
  z3 := nin_new (a := p3.2) 5 2 h3 (by decide)
  T3 := nin_new (a := p3.2) 4 2 h3 (by decide)
  I3 := by show (M + 3 : Nat) ≠ M + 2; omega
  s1_3 := nin_new (a := p3.2) 0 2 h3 (by decide)
  s2_3 := nin_new (a := p3.2) 1 2 h3 (by decide)
theorem pi_z3s {X : Cx} {e1 e2 e3 : Expr} {ta : TA} {p pos tpos : Pos} {elts : List Expr} {kk : Nat} {jj : Nat} {kp kp2 : Pos} {fl : List Bool} (hfl : fl.length = 3) (hg : Gl X "zip") (hm : X.mg "zip" = none) (ha : PA X [e1, e2, e3] ta)
    (hs : starEach [e1, e2, e3] X.env = (false, eval e1 X.env) :: starEach [e2, e3] X.env := by rfl) (hpl : (backTo pos (starEach [e2, e3] X.env)).any (·.1) = false := by rfl) :
    PI X (.Tuple elts kk tpos) (.Call (.Name "zip" p) [e1, e2, e3] [⟨some "strict", .Constant (.bool true) jj kp, kp2⟩] pos) (iZ X.K fl ta) := by
  refine ⟨fun pins s σ H R I h => ?_⟩
  refine wpAny_Call_Name_kw (ld_blt I hg hm PyProof.Rows.boot_zip ?_)
  refine PySem.W.callWith_of (P := fun _ => True) ?_ (fun h _ => looks_ty "zip" True.intro) ?_
  · show ((backTo pos (starEach _ X.env)).any (·.1) || false) = false
    rw [hs, Bool.or_false]
    exact hpl
  have he : backTo pos (starEach [e1, e2, e3] X.env) = (false, eval e1 X.env) :: backTo pos (starEach [e2, e3] X.env) := by rw [hs]; rfl
  rw [he]
  refine PyProof.Rows.evalArgs_kwB rfl ?_
  rw [← he]
  refine thn (ha.run pos pins s σ H _ I h) fun us s0 ⟨vs, H1, I0, r1, q1⟩ => ?_
  refine PyProof.Rows.kws_cons (Constant_bool (PyProof.Rows.kws_nil ⟨True.intro, ?_⟩))
  have I1 := I0
  obtain ⟨l, ev, el, hl, q1⟩ := q1
  subst ev
  obtain ⟨b1, b2, b3, rfl⟩ : ∃ b1 b2 b3 : Bool, fl = [b1, b2, b3] := match fl, hfl with | [_, _, _], _ => ⟨_, _, _, rfl⟩
  obtain ⟨c1, c2, c3, rfl⟩ : ∃ c1 c2 c3 : Addr, l = [c1, c2, c3] := match l, el with | [_, _, _], _ => ⟨_, _, _, rfl⟩
  cases r1 with
  | cons r_1 rr1 =>
    cases r_1
    cases rr1 with
    | cons r_2 rr2 =>
      cases r_2
      cases rr2 with
      | cons r_3 rr3 =>
        cases r_3
        cases rr3
        obtain ⟨xs1, hq1⟩ := hl (b1, c1) (by simp)
        obtain ⟨its1, rv1, g1, lt1⟩ := sq_seq I1 hq1
        obtain ⟨xs2, hq2⟩ := hl (b2, c2) (by simp)
        obtain ⟨its2, rv2, g2, lt2⟩ := sq_seq I1 hq2
        obtain ⟨xs3, hq3⟩ := hl (b3, c3) (by simp)
        obtain ⟨its3, rv3, g3, lt3⟩ := sq_seq I1 hq3
        have frs : ∀ c, c ∈ [s0.heap.objs.size + 5, s0.heap.objs.size + 3, s0.heap.objs.size + 4, s0.heap.objs.size, s0.heap.objs.size + 1, s0.heap.objs.size + 2] → FpOk X pins H1 c := fun c hcm => by
          have e : c = s0.heap.objs.size + 5 ∨ c = s0.heap.objs.size + 3 ∨ c = s0.heap.objs.size + 4 ∨ c = s0.heap.objs.size ∨ c = s0.heap.objs.size + 1 ∨ c = s0.heap.objs.size + 2 := by simpa using hcm
          have hle : s0.heap.objs.size ≤ c := by
            rcases e with q | q | q | q | q | q
            · rw [q]; exact Nat.le_add_right _ _
            · rw [q]; exact Nat.le_add_right _ _
            · rw [q]; exact Nat.le_add_right _ _
            · rw [q]; exact Nat.le_refl _
            · rw [q]; exact Nat.le_add_right _ _
            · rw [q]; exact Nat.le_add_right _ _
          exact I1.fpOk hle (I1.hok.fresh hle)
        refine begins_strict3 (begins_of (b1, c1) its1) (begins_of (b2, c2) its2) (begins_of (b3, c3) its3) g1 g2 g3 fun hA hz hTI hTO y1 y2 y3 kk => iter_zip hz ?_
        have I2 : Inv X pins σ H1 { s0 with heap := hA } := I1.kept (t' := s0.toks) kk
        exact ⟨_, [s0.heap.objs.size + 5, s0.heap.objs.size + 3, s0.heap.objs.size + 4, s0.heap.objs.size, s0.heap.objs.size + 1, s0.heap.objs.size + 2], _, _, H1, rfl, I2, turn_z3 (sep_new3 lt1 lt2 lt3) (Nat.ne_of_lt lt1) (Nat.ne_of_lt (Nat.lt_of_lt_of_le lt2 (Nat.le_add_right _ 1))) (Nat.ne_of_lt (Nat.lt_of_lt_of_le lt3 (Nat.le_add_right _ 2))), ⟨hz, hTI, ⟨_, _, _, hTO⟩, SqIt.begin y1, SqIt.begin y2, SqIt.begin y3⟩, frs, q1⟩
theorem pi_z3 {X : Cx} {e1 e2 e3 : Expr} {ta : TA} {p pos tpos : Pos} {elts : List Expr} {kk : Nat} {fl : List Bool} (hfl : fl.length = 3) (hg : Gl X "zip") (hm : X.mg "zip" = none) (ha : PA X [e1, e2, e3] ta)
    (hs : starEach [e1, e2, e3] X.env = (false, eval e1 X.env) :: starEach [e2, e3] X.env := by rfl) (hpl : (backTo pos (starEach [e2, e3] X.env)).any (·.1) = false := by rfl) :
    PI X (.Tuple elts kk tpos) (.Call (.Name "zip" p) [e1, e2, e3] [] pos) (iZ X.K fl ta) := by
  refine ⟨fun pins s σ H R I h => ?_⟩
  refine Call_ (ld_blt I hg hm PyProof.Rows.boot_zip (PyProof.Rows.callWith_type1 (thn (ha.run pos pins s σ H _ I h) fun us s0 ⟨vs, H1, I1, r1, q1⟩ => ?_) hs hpl))
  obtain ⟨l, ev, el, hl, q1⟩ := q1
  subst ev
  obtain ⟨b1, b2, b3, rfl⟩ : ∃ b1 b2 b3 : Bool, fl = [b1, b2, b3] := match fl, hfl with | [_, _, _], _ => ⟨_, _, _, rfl⟩
  obtain ⟨c1, c2, c3, rfl⟩ : ∃ c1 c2 c3 : Addr, l = [c1, c2, c3] := match l, el with | [_, _, _], _ => ⟨_, _, _, rfl⟩
  cases r1 with
  | cons r_1 rr1 =>
    cases r_1
    cases rr1 with
    | cons r_2 rr2 =>
      cases r_2
      cases rr2 with
      | cons r_3 rr3 =>
        cases r_3
        cases rr3
        obtain ⟨xs1, hq1⟩ := hl (b1, c1) (by simp)
        obtain ⟨its1, rv1, g1, lt1⟩ := sq_seq I1 hq1
        obtain ⟨xs2, hq2⟩ := hl (b2, c2) (by simp)
        obtain ⟨its2, rv2, g2, lt2⟩ := sq_seq I1 hq2
        obtain ⟨xs3, hq3⟩ := hl (b3, c3) (by simp)
        obtain ⟨its3, rv3, g3, lt3⟩ := sq_seq I1 hq3
        have frs : ∀ c, c ∈ [s0.heap.objs.size + 5, s0.heap.objs.size + 3, s0.heap.objs.size + 4, s0.heap.objs.size, s0.heap.objs.size + 1, s0.heap.objs.size + 2] → FpOk X pins H1 c := fun c hcm => by
          have e : c = s0.heap.objs.size + 5 ∨ c = s0.heap.objs.size + 3 ∨ c = s0.heap.objs.size + 4 ∨ c = s0.heap.objs.size ∨ c = s0.heap.objs.size + 1 ∨ c = s0.heap.objs.size + 2 := by simpa using hcm
          have hle : s0.heap.objs.size ≤ c := by
            rcases e with q | q | q | q | q | q
            · rw [q]; exact Nat.le_add_right _ _
            · rw [q]; exact Nat.le_add_right _ _
            · rw [q]; exact Nat.le_add_right _ _
            · rw [q]; exact Nat.le_refl _
            · rw [q]; exact Nat.le_add_right _ _
            · rw [q]; exact Nat.le_add_right _ _
          exact I1.fpOk hle (I1.hok.fresh hle)
        refine zip_begins3 (begins_of (b1, c1) its1) (begins_of (b2, c2) its2) (begins_of (b3, c3) its3) g1 g2 g3 fun hA hz hTI hTO y1 y2 y3 _ kk => iter_zip (b := false) hz ?_
        have I2 : Inv X pins σ H1 { s0 with heap := hA } := I1.kept (t' := s0.toks) kk
        exact ⟨_, [s0.heap.objs.size + 5, s0.heap.objs.size + 3, s0.heap.objs.size + 4, s0.heap.objs.size, s0.heap.objs.size + 1, s0.heap.objs.size + 2], _, _, H1, rfl, I2, turn_z3 (sep_new3 lt1 lt2 lt3) (Nat.ne_of_lt lt1) (Nat.ne_of_lt (Nat.lt_of_lt_of_le lt2 (Nat.le_add_right _ 1))) (Nat.ne_of_lt (Nat.lt_of_lt_of_le lt3 (Nat.le_add_right _ 2))), ⟨hz, hTI, ⟨_, _, _, hTO⟩, SqIt.begin y1, SqIt.begin y2, SqIt.begin y3⟩, frs, q1⟩
end CZ

namespace CS
open PySem PySem.Spec PyProof.Rows L2
/-! ### rules beside the layer's -/
section
variable {X : Cx}
/-- a product, whatever the reason that it fits -/
theorem op_mulI : OpR X (binaryOp .Mult) (rI IntMulOk fun i j => .int (i * j)) := opI fun _ _ _ _ _ _ _ hc q => mul_int q hc
/-- list + list, however each is known -/
def rCatR (K : PySem.W.Frag) : R2 := fun x y H Q => ∃ l b xs zs, x = .ref l ∧ y = .ref b ∧ SqL K H l xs ∧ SqL K H b zs ∧ xs.length + zs.length ≤ sizeLine ∧ ∀ p, H p = none → Q (.ref p) (upd H p (.lst (xs ++ zs)))
theorem op_catR : OpR X (binaryOp .Add) (rCatR X.K) := by
  intro pins s σ H x y v u Q I rx ry h
  obtain ⟨l, b, xs, zs, rfl, rfl, hH, hB, hz, q⟩ := h
  cases rx
  cases ry
  obtain ⟨its, r, p1, _⟩ := I.list hH
  obtain ⟨its2, r2, p2, _⟩ := I.list hB
  obtain ⟨⟨cls, dd, data, sl⟩, ho, hc, n, hd⟩ := id p1.isList
  obtain ⟨⟨cls2, dd2, data2, sl2⟩, ho2, hc2, n2, hd2⟩ := id p2.isList
  simp only at hc hd hc2 hd2
  subst hc hd hc2 hd2
  have l1 := r.length
  have l2 := r2.length
  have ea : its.toArray ++ its2.toArray = (its ++ its2).toArray := by simp
  refine concat_meets ⟨_, ho, rfl⟩ ⟨_, ho2, rfl⟩ noFill_list_add seq_list_add PySem.F.slot_list_add PySem.F.entry_list_add (PySem.F.args_list_add_2 _ _) (list_addW l b its.toArray its2.toArray n n2 dd dd2 sl sl2 (by rw [List.size_toArray, List.size_toArray]; omega)) ⟨ho, ho2, ?_⟩
  rw [ea]
  exact ⟨.ref _, _, I.lnew (t' := s.toks) (r.append r2) (by rw [List.length_append]; omega), rfl, q _ I.fresh⟩
theorem pi_or {tg it : Expr} {w1 w2 : TI} (h1 : PI X tg it w1) (h2 : PI X tg it w2) : PI X tg it (fun σ H R => w1 σ H R ∨ w2 σ H R) :=
  ⟨fun pins s σ H R I h => h.elim (fun z => h1.run pins s σ H R I z) fun z => h2.run pins s σ H R I z⟩
end
/-! ### calls by keywords alone -/
def pick {α : Type} (js : List Nat) (l : List α) : List α := js.filterMap fun j => l[j]?
theorem vals_pick {xs : List V} {us : List Value} (r : Vals xs us) : ∀ js : List Nat, Vals (pick js xs) (pick js us)
  | [] => .nil
  | j :: js => by
    have ih := vals_pick r js
    unfold pick at ih ⊢
    cases e : xs[j]? with
    | none =>
      have e2 := r.none_of e
      rw [List.filterMap_cons_none (by rw [e]), List.filterMap_cons_none (by rw [e2])]
      exact ih
    | some x =>
      obtain ⟨u, e2, ru⟩ := r.get e
      rw [List.filterMap_cons_some (by rw [e]), List.filterMap_cons_some (by rw [e2])]
      exact .cons ru ih
theorem kbn_of {K : PySem.W.Frag} {x qual : Str} {st : Stmt} {f : Addr} {fd : FuncData} {ps : List Str} (F : Fun K x qual st f fd) (n : Nat) (ks : List Str) (js : List Nat)
    (h : ∀ (kV doc pm : Value) (an : Option Addr) (cdv ct : Value) (us ws : List Value), us.length = n → ws.length = ks.length → bindArgs (PySem.W.fnOf x qual (defArgs st) (defBody st) (defScope st) .none kV doc pm an cdv ct) ⟨us, ks.zip ws⟩ = pure (ps.zip (pick js (us ++ ws)))) :
    KBn K fd ps n ks (fun us ws => pick js (us ++ ws)) (fun vs zs => pick js (vs ++ zs)) := by
  obtain ⟨oc, od, kV, doc, pm, an, cdv, ct, osl, rfl, lk, hcd⟩ := F.ex
  exact ⟨fun s us ws _ h1 h2 => .of_eq (h kV doc pm an cdv ct us ws h1 h2), fun r1 r2 => vals_pick (r1.append r2) js⟩
section
variable {X : Cx} {CX : CXT} {k n : Nat} {f C : Addr} {fd : FuncData} {ps ks : List Str} {sp : Sp} {E : XK} {x m : Str} {p pos apos : Pos} {o : Expr} {kws : List Keyword} {ta : TE} {tk : TA} {g : List Value → List Value → List Value} {gV : List V → List V → List V}
theorem run_kw {pins : List (Addr × Obj)} {σ : L2.St} {H : Hp} {s : Shared} {Q : VK} {us ws : List Value} {vs zs : List V} (F : FnOk X.prog X.w X.K X.mg X.base CX k f fd ps sp) (hr : Room k X.A) (hb : KBn X.K fd ps n ks g gV) (hx : Passes CX X E)
    (I : Inv X pins σ H s) (r : Vals vs us) (rz : Vals zs ws) (l1 : vs.length = n) (l2 : zs.length = ks.length) (h : sp (gV vs zs) H Q E) : wpAny (model X.prog X.w) X.A (call (.ref f) us (ks.zip ws)) (EP X pins σ Q) X.xe s := by
  refine wpAny_call (codeAny_mono (F.run X.A X.stack s H ⟨us, ks.zip ws⟩ (g us ws) (gV vs zs) Q E hr I.env0 (hb.to s us ws I.kIn (r.length.symm.trans l1) (rz.length.symm.trans l2)) (hb.rel r rz) h) fun res s2 hq => ?_)
  cases res with
  | error e => exact hx pins σ H s e s2 I hq
  | ok fl =>
    cases fl with
    | ret u => exact I.after hq
    | next => exact False.elim hq
    | brk => exact False.elim hq
    | cont => exact False.elim hq
/-- f(k = v, ..) -/
def tCallKw (m : Nat) (sp : Sp) (gV : List V → List V → List V) (E : XK) (tk : TA) : TE := fun σ H Q => tk σ H fun zs H1 => zs.length = m ∧ sp (gV [] zs) H1 Q E
theorem pe_callKw (F : FnOk X.prog X.w X.K X.mg X.base CX k f fd ps sp) (hr : Room k X.A) (hg : Gl X x) (hm : X.mg x = some (.ref f)) (hk : PySem.W.keepIn X.K (.ref f) = true) (hb : KBn X.K fd ps 0 ks g gV) (hx : Passes CX X E) (hkw : PK X kws tk)
    (hall : (backToKw pos (keywordEach kws X.env)).all (·.1.isSome) = true := by rfl) (hks : (backToKw pos (keywordEach kws X.env)).filterMap (·.1) = ks := by rfl) (hdb : (x == ("__debug__" : Str)) = false := by decide)
    (hpl : ((backTo pos (starEach [] X.env)).any (·.1) || (backToKw pos (keywordEach kws X.env)).any (·.1.isNone)) = false := by rfl) :
    PE X (.Call (.Name x p) [] kws pos) (tCallKw ks.length sp gV E tk) := by
  refine ⟨fun pins s σ H Q I h => ?_⟩
  refine wpAny_Call_Name_kw (ld_glob I hg hm ?_ hdb)
  refine PySem.W.callWith_KW0 (h₀ := X.base) I.ok.mod.kin hk hall (thn (hkw.run pos pins s σ H _ I h) fun ws s2 ⟨zs, H2, I2, rz, l2, q2⟩ => ⟨I2.kIn, ?_⟩) hpl
  rw [hks]
  exact run_kw (us := []) (vs := []) F hr hb hx I2 .nil rz rfl l2 q2
/-- o.m(k = v, ..) -/
def tMethKw (C : Addr) (m : Str) (n : Nat) (sp : Sp) (gV : List V → List V → List V) (E : XK) (ta : TE) (tk : TA) : TE := fun σ H Q => ta σ H fun x H1 => ∃ a dx fs, x = .ref a ∧ H1 a = some (.ins C dx fs) ∧ fs.lookup m = none ∧
  tk σ H1 fun zs H2 => zs.length = n ∧ sp (gV [x] zs) H2 Q E
theorem pe_methKw {pl : Sem Bool} (he : PE X o ta) (c : Cls X.K C) (hm : Meth X.K C m f) (F : FnOk X.prog X.w X.K X.mg X.base CX k f fd ps sp) (hr : Room k X.A) (hb : KBn X.K fd ps 1 ks g gV) (hx : Passes CX X E) (hkw : PK X kws tk)
    (hall : (backToKw pos (keywordEach kws X.env)).all (·.1.isSome) = true := by rfl) (hks : (backToKw pos (keywordEach kws X.env)).filterMap (·.1) = ks := by rfl)
    (hpl : ((backTo pos (starEach [] X.env)).any (·.1) || (backToKw pos (keywordEach kws X.env)).any (·.1.isNone)) = false := by rfl)
    (ht : eval (.Call (.Attribute o m apos) [] kws pos) X.env = (do
      let ov ← eval o X.env
      standAt apos.atName
      let (f, first) ← holding [ov] (getMethod ov m pl)
      callWith pos f first (backTo pos (starEach [] X.env)) (backToKw pos (keywordEach kws X.env))) := by rfl) :
    PE X (.Call (.Attribute o m apos) [] kws pos) (tMethKw C m ks.length sp gV E ta tk) := by
  refine ⟨fun pins s σ H Q I h => ?_⟩
  refine PySem.W.methodCall_KW (pl := pl) (thn (he.run pins s σ H _ I h) fun u s1 ⟨x, H1, I1, rx, a, dx, fs, ex, ea, l, q⟩ => ?_) ht
  subst ex
  obtain rfl : u = Value.ref a := rx
  refine getmeth_ok I1 ea c hm l ?_
  refine PySem.W.callWith_KW0 (first := [.ref a]) (h₀ := X.base) I.ok.mod.kin hm.kp hall (thn (hkw.run pos pins s1 σ H1 _ I1 q) fun ws s2 ⟨zs, H2, I2, rz, l2, q2⟩ => ⟨I2.kIn, ?_⟩) hpl
  rw [hks]
  exact run_kw (us := [.ref a]) (vs := [.ref a]) F hr hb hx I2 (.cons rfl .nil) rz rfl l2 q2
end
/-! ### heaps that grow -/
abbrev Ex (H H2 : Hp) : Prop := Evl.Ex H H2
theorem exr {H : Hp} : Ex H H := fun _ _ h => h
theorem exn {H : Hp} {p : Addr} {o : HO} (h : H p = none) : Ex H (upd H p o) := Evl.Ex.new h
theorem SqK.mono {K : PySem.W.Frag} {H H2 : Hp} {p : Bool × Addr} {xs : List V} (e : Ex H H2) (h : CZ.SqK K H p xs) : CZ.SqK K H2 p xs := by
  obtain ⟨b, a⟩ := p
  cases b
  · exact Evl.ex_l e h
  · exact Evl.ex_t e h
/-- a comprehension whose element and tests leave all that stood: out i is what stands behind i turns -/
theorem lc_out {J : It} {n : Nat} {G : Hp → Prop} {Y : Nat → Hp → V → Hp → Prop} (w : Walk J n G Y) {g : TG} {tt : TT} {te : TE} {vs : List Nat} {σ : L2.St} {H1 : Hp} {D : Addr} {Qd : Hp → Prop} (out : Nat → List V) (h0 : out 0 = []) (hD : H1 D = none)
    (hlen : ∀ i, i < n → (out i).length < sizeLine) (hG : ∀ H, Ex H1 H → G H)
    (hs : ∀ i x H H2 (Nx : Hp → Prop), i < n → Ex H1 H → H D = some (.lst (out i)) → Y i H x H2 →
      (∀ y H5, Ex H H5 → out (i + 1) = out i ++ [y] → ∃ acc, H5 D = some (.lst acc) ∧ acc.length < sizeLine ∧ Nx (upd H5 D (.lst (acc ++ [y])))) → (∀ H4, Ex H H4 → out (i + 1) = out i → Nx H4) →
      g x (wipe σ vs) H2 fun σ2 H3 => wipe σ2 vs = wipe σ vs ∧ tt σ2 H3 fun b H4 => if b = true then te σ2 H4 fun y H5 => ∃ acc, H5 D = some (.lst acc) ∧ acc.length < sizeLine ∧ Nx (upd H5 D (.lst (acc ++ [y]))) else Nx H4)
    (hd : ∀ H, Ex H1 H → H D = some (.lst (out n)) → Qd H) :
    ∃ W : Nat → Nat → Hp → Prop, (∃ m, W 0 m (upd H1 D (.lst []))) ∧ ∀ i m H, W i m H →
      (J.stop i H ∧ Qd H) ∨ (J.go i H ∧ ∃ Nx : Hp → Prop, (∀ H2, Nx H2 → ∃ m2, m2 < m ∧ W (i + 1) m2 H2) ∧ ∀ x H2, J.yld i H x H2 → g x (wipe σ vs) H2 fun σ2 H3 => wipe σ2 vs = wipe σ vs ∧ tt σ2 H3 fun b H4 =>
        if b = true then te σ2 H4 fun y H5 => ∃ acc, H5 D = some (.lst acc) ∧ acc.length < sizeLine ∧ Nx (upd H5 D (.lst (acc ++ [y]))) else Nx H4) := by
  refine lc_it w (fun i H => Ex H1 H ∧ H D = some (.lst (out i))) ⟨exn hD, by rw [upd_same, h0]⟩ (fun i H _ p => hG H p.1) (fun i x H H2 hi p y => ?_) (fun H p => hd H p.1 p.2)
  refine hs i x H H2 _ hi p.1 p.2 y (fun y2 H5 e eo => ⟨out i, e D _ p.2, hlen i hi, fun b o q => ?_, by rw [upd_same, eo]⟩) (fun H4 e eo => ⟨fun b o q => e b o (p.1 b o q), by rw [eo]; exact e D _ p.2⟩)
  rw [upd_ne (ne_of_none q hD)]
  exact e b o (p.1 b o q)
/-- .. whose list is known: vals -/
theorem lc_vals {J : It} {n : Nat} {G : Hp → Prop} {Y : Nat → Hp → V → Hp → Prop} (w : Walk J n G Y) {g : TG} {te : TE} {vs : List Nat} {σ : L2.St} {H1 : Hp} {D : Addr} {Qd : Hp → Prop} (vals : List V) (hn : vals.length = n) (hl : n ≤ 10000000) (hD : H1 D = none)
    (hG : ∀ H, Ex H1 H → G H)
    (hs : ∀ i x H H2 (R : VK), i < n → Ex H1 H → Y i H x H2 → (∀ y H5, Ex H H5 → vals[i]? = some y → R y H5) → g x (wipe σ vs) H2 fun σ2 H3 => wipe σ2 vs = wipe σ vs ∧ te σ2 H3 R)
    (hg : ∀ x σ2 H2 (R R2 : L2.St → Hp → Prop), (∀ σ3 H3, R σ3 H3 → R2 σ3 H3) → g x σ2 H2 R → g x σ2 H2 R2)
    (hd : ∀ H, Ex H1 H → H D = some (.lst vals) → Qd H) :
    ∃ W : Nat → Nat → Hp → Prop, (∃ m, W 0 m (upd H1 D (.lst []))) ∧ ∀ i m H, W i m H →
      (J.stop i H ∧ Qd H) ∨ (J.go i H ∧ ∃ Nx : Hp → Prop, (∀ H2, Nx H2 → ∃ m2, m2 < m ∧ W (i + 1) m2 H2) ∧ ∀ x H2, J.yld i H x H2 → g x (wipe σ vs) H2 fun σ2 H3 => wipe σ2 vs = wipe σ vs ∧ tYes σ2 H3 fun b H4 =>
        if b = true then te σ2 H4 fun y H5 => ∃ acc, H5 D = some (.lst acc) ∧ acc.length < sizeLine ∧ Nx (upd H5 D (.lst (acc ++ [y]))) else Nx H4) := by
  refine lc_out w (fun i => vals.take i) rfl hD (fun i hi => ?_) hG (fun i x H H2 Nx hi e hDi y kA _ => ?_) (fun H e h => hd H e ?_)
  · rw [List.length_take]
    exact Nat.lt_of_le_of_lt (Nat.le_trans (Nat.min_le_right _ _) (by rw [hn]; exact hl)) (by decide)
  · refine hg _ _ _ _ _ (fun σ3 H3 q => ⟨q.1, ?_⟩) (hs i x H H2 (fun y H5 => ∃ acc, H5 D = some (.lst acc) ∧ acc.length < sizeLine ∧ Nx (upd H5 D (.lst (acc ++ [y])))) hi e y fun y2 H5 e5 ev => kA y2 H5 e5 ?_)
    · exact q.2
    · rw [List.take_add_one, ev]
      rfl
  · rw [h, List.take_of_length_le (by rw [hn]; exact Nat.le_refl _)]
theorem gmono_name {i : Nat} : ∀ x σ2 H2 (R R2 : L2.St → Hp → Prop), (∀ σ3 H3, R σ3 H3 → R2 σ3 H3) → gName i x σ2 H2 R → gName i x σ2 H2 R2 := fun _ _ _ _ _ h q => h _ _ q
theorem gmono_nil : ∀ vs σ2 H2 (R R2 : L2.St → Hp → Prop), (∀ σ3 H3, R σ3 H3 → R2 σ3 H3) → gNil vs σ2 H2 R → gNil vs σ2 H2 R2 := fun _ _ _ _ _ h q => ⟨q.1, h _ _ q.2⟩
theorem gmono_cons {t : TG} {u : TGs} (ht : ∀ x σ2 H2 (R R2 : L2.St → Hp → Prop), (∀ σ3 H3, R σ3 H3 → R2 σ3 H3) → t x σ2 H2 R → t x σ2 H2 R2) (hu : ∀ x σ2 H2 (R R2 : L2.St → Hp → Prop), (∀ σ3 H3, R σ3 H3 → R2 σ3 H3) → u x σ2 H2 R → u x σ2 H2 R2) :
    ∀ vs σ2 H2 (R R2 : L2.St → Hp → Prop), (∀ σ3 H3, R σ3 H3 → R2 σ3 H3) → gCons t u vs σ2 H2 R → gCons t u vs σ2 H2 R2 := fun vs σ2 H2 R R2 h q => by
  obtain ⟨v, r, e, q⟩ := q
  exact ⟨v, r, e, ht _ _ _ _ _ (fun σ3 H3 z => hu _ _ _ _ _ h z) q⟩
theorem gmono_tup {K : PySem.W.Frag} {n : Nat} {t : TGs} (ht : ∀ x σ2 H2 (R R2 : L2.St → Hp → Prop), (∀ σ3 H3, R σ3 H3 → R2 σ3 H3) → t x σ2 H2 R → t x σ2 H2 R2) :
    ∀ v σ2 H2 (R R2 : L2.St → Hp → Prop), (∀ σ3 H3, R σ3 H3 → R2 σ3 H3) → gTup K n t v σ2 H2 R → gTup K n t v σ2 H2 R2 := fun v σ2 H2 R R2 h q => by
  obtain ⟨a, xs, e, h1, h2, q⟩ := q
  exact ⟨a, xs, e, h1, h2, ht _ _ _ _ _ h q⟩
/-! ### a list or a tuple walked -/
def ItS (K : PySem.W.Frag) (p : Bool × Addr) : It := if p.1 = true then Itt K p.2 else Itl K p.2
def iSeq (K : PySem.W.Frag) (tl : TE) : TI := fun σ H R => tl σ H fun x H1 => ∃ p : Bool × Addr, x = .ref p.2 ∧ (∃ xs, CZ.SqK K H1 p xs) ∧ R (ItS K p) H1
theorem pi_seq {X : Cx} {tg l : Expr} {tl : TE} (hl : PE X l tl) : PI X tg l (iSeq X.K tl) := by
  refine ⟨fun pins s σ H R I h => ?_⟩
  refine thn (hl.run pins s σ H _ I h) fun v s1 ⟨x, H1, I1, r1, q1⟩ => ?_
  obtain ⟨⟨b, a⟩, ex, ⟨xs, hq⟩, q⟩ := q1
  subst ex
  cases r1
  obtain ⟨its, rv, g, lt⟩ := CZ.sq_seq I1 hq
  have fp : ∀ c ∈ [s1.heap.objs.size], FpOk X pins H1 c := fun c hc => by
    have e : c = s1.heap.objs.size := by simpa using hc
    rw [e]
    exact I1.fpOk (Nat.le_refl _) (I1.hok.fresh (Nat.le_refl _))
  refine (CZ.begins_of (b, a) its).iter _ _ _ _ s1 _ g ?_
  have I2 : Inv X pins σ H1 { s1 with heap := s1.heap.push (CZ.itO (b, a)) } := I1.kept (t' := s1.toks) fun c o e => Heap.get?_push_of_some _ e
  cases b
  · exact ⟨_, [s1.heap.objs.size], _, _, H1, rfl, I2, turn_list a _, ⟨_, Heap.get?_push_size _ rfl, rfl, rfl⟩, fp, q⟩
  · exact ⟨_, [s1.heap.objs.size], _, _, H1, rfl, I2, turn_tuple a _, ⟨_, Heap.get?_push_size _ rfl, rfl, rfl⟩, fp, q⟩
theorem walk_seq {K : PySem.W.Frag} {p : Bool × Addr} {xs : List V} : Walk (ItS K p) xs.length (fun H => CZ.SqK K H p xs) (YAt xs) := by
  obtain ⟨b, a⟩ := p
  cases b
  · exact walk_list
  · exact walk_tup
theorem itt {c : Bool} {A B : Prop} (h : c = true) (a : A) : if c = true then A else B := by rw [if_pos h]; exact a
theorem itf {c : Bool} {A B : Prop} (h : c = false) (b : B) : if c = true then A else B := by rw [h, if_neg Bool.false_ne_true]; exact b
theorem map_get {α : Type} {f : α → V} {l : List α} {i : Nat} {x : V} (h : (l.map f)[i]? = some x) : ∃ n, l[i]? = some n ∧ x = f n := by
  rw [List.getElem?_map] at h
  cases e : l[i]? with
  | none => rw [e] at h; cases h
  | some n => rw [e] at h; exact ⟨n, rfl, (Option.some.inj h).symm⟩
end CS

namespace CE
open PySem PySem.Spec PyProof.Rows L2 CZ
/-! ### enumerate over a list or a tuple -/
theorem enumO_new {v : Value} {oo : Obj} {Hq : Heap → Prop} (bg : Begins v oo Hq) :
    Meets (Builtin.«enumerate.__new__» ⟨[.type "enumerate", v], []⟩) (fun _ R t => Hq t.heap ∧
      R (.ok (.ret (.ref (t.heap.push oo).objs.size))) { t with heap := (t.heap.push oo).push { cls := .type "enumerate", data := .fields #[.none, .bool false, .ref t.heap.objs.size, rawInt 0, .none, .none] } }) :=
  .of_wp fun pg wo Ar R t hyp => by
    obtain ⟨hh, gg, dd, tt, oq⟩ := t
    obtain ⟨start, goal⟩ := hyp
    have es := PySem.sub_enumerate
    have go1 : ∀ {A2 : Around} {E2 : Value → Shared → Prop} {Q2 : Value → Shared → Prop}, Q2 (.ref hh.objs.size) ⟨hh.push oo, gg, dd, tt, oq⟩ → wpAny (model pg wo) A2 (pyIter v) Q2 E2 ⟨hh, gg, dd, tt, oq⟩ :=
      fun z => bg.iter pg wo _ _ ⟨hh, gg, dd, tt, oq⟩ _ start z
    wp_walk using go1
    refine wpAny_stack_any fun stk => wpAny_pure ?_
    split
    · rename_i cc _ _ _ _ _
      cases (cc == Value.type "enumerate")
      all_goals
        wp_walk using go1
        exact ⟨_, rfl, goal⟩
    · wp_walk using go1
      exact ⟨_, rfl, goal⟩
theorem enum_of {pg : Program} {wo : World} {Ar : Around} {Ex1 : Value → Shared → Prop} {t : Shared} {v : Value} {oo : Obj} {Hq : Heap → Prop} {Qe : Value → Shared → Prop} (bg : Begins v oo Hq) (start : Hq t.heap)
    (goal : ∀ hN, IsEnum hN (t.heap.objs.size + 1) t.heap.objs.size 0 .none → hN.get? t.heap.objs.size = some oo → (∀ c ob, t.heap.get? c = some ob → hN.get? c = some ob) → Qe (.ref (t.heap.objs.size + 1)) { t with heap := hN }) :
    wpAny (model pg wo) Ar (call (.type "enumerate") [v]) Qe Ex1 t := by
  refine callType_new F.called_enumerate (by decide) (F.typeCall_enumerate_1 _) (F.newCall_enumerate_1 _) (fun ob => F.args_object_init_2 ob _) F.entry_enumerate_new (enumO_new bg) ⟨start, ?_⟩
  have size1 : (t.heap.push oo).objs.size = t.heap.objs.size + 1 := Heap.size_push ..
  have isE : IsEnum ((t.heap.push oo).push { cls := .type "enumerate", data := .fields #[.none, .bool false, .ref t.heap.objs.size, rawInt 0, .none, .none] }) (t.heap.objs.size + 1) t.heap.objs.size 0 .none := by
    have at1 := Heap.get?_push_size (t.heap.push oo) (o := { cls := .type "enumerate", data := .fields #[.none, .bool false, .ref t.heap.objs.size, rawInt 0, .none, .none] }) rfl
    rw [size1] at at1
    exact at1
  show _ ∧ _
  rw [size1]
  exact ⟨⟨_, isE, rfl⟩, goal _ isE (Heap.get?_push_of_some _ (Heap.get?_push_size _ bg.free)) fun c ob z => Heap.get?_push_of_some _ (Heap.get?_push_of_some _ z)⟩
/-- what stands at p, each item in a new pair -/
def ItE (K : PySem.W.Frag) (p : Bool × Addr) : It :=
  ⟨fun i H => ∃ (xs : List V) (x : V), SqK K H p xs ∧ xs[i]? = some x, fun i H v H2 => ∃ T x, v = .ref T ∧ H T = none ∧ H2 = upd H T (.tup [.int (i : Nat), x]) ∧ ∀ xs, SqK K H p xs → xs[i]? = some x, fun i H => ∃ xs : List V, SqK K H p xs ∧ xs.length = i⟩
theorem turn_e {P : Program} {w : World} {K : PySem.W.Frag} {elts : List Expr} {kk : Nat} {tpos : Pos} {en it : Addr} {p : Bool × Addr} (n1 : p.2 ≠ it) (n2 : en ≠ it) (n3 : en ≠ p.2) :
    Turn P w K (.Tuple elts kk tpos) (ItE K p) [en, it] en (fun i h => (∃ old, IsEnum h en it ((i : Nat) : Int) old) ∧ SqIt h it p i) where
  mem := by simp
  obj := fun i h st c hc => by
    obtain ⟨⟨old, ie⟩, si⟩ := st
    have e : c = en ∨ c = it := by simpa using hc
    rcases e with q | q
    · rw [q]; exact ⟨_, ie, fun v q => nomatch q⟩
    · rw [q]; exact si.obj
  keep := fun i h h2 st k => by
    obtain ⟨⟨old, ie⟩, si⟩ := st
    exact ⟨⟨old, k en (by simp) _ ie⟩, si.at fun o q => k it (by simp) o q⟩
  item := by
    intro X hP hw hK hc i pins s σ H E I hf st hg
    subst hP hw hK
    obtain ⟨⟨old, ie⟩, si⟩ := st
    obtain ⟨xs, x, hq, hx⟩ := hg
    obtain ⟨its, rv, sq, _⟩ := sq_seq I hq
    obtain ⟨u, hu, ru⟩ := rv.get hx
    have gu : its.toArray[i]? = some u := by simpa using hu
    have lu : i < its.toArray.size := by
      have := (List.getElem?_eq_some_iff.mp hu).1
      simpa using this
    have enl : en < s.heap.objs.size := Heap.lt_size ie
    have itl : it < s.heap.objs.size := by
      obtain ⟨_, q, _⟩ := si.obj
      exact Heap.lt_size q
    refine PySem.wpAny_pyNext_enum_itemD (draws_of (A := X.A.in1) (I.ok.hd hc) it p n1 its) ie ⟨si, sq⟩ lu n2 (by simp [n2, n3]) fun x1 hA tk hx1 out ⟨si2, _⟩ hT hsz hk => ?_
    obtain rfl : u = x1 := Option.some.inj (gu.symm.trans hx1)
    refine ⟨_, rfl, wpAny_letOwnedTupleGo_enum (s := { s with heap := hA, toks := tk + 1 }) out fun hB isB sb => ?_⟩
    replace sb : Heap.SameBut en hA hB := sb
    have hT2 : hB.get? s.heap.objs.size = some { cls := .type "tuple", data := .seq #[.int i tk, u] } := (sb.2 _ (Nat.ne_of_gt enl)).trans hT
    have made : ObjOk X.prog X.w (upd H s.heap.objs.size (.tup [.int (i : Nat), x])) hB s.heap.objs.size (.tup [.int (i : Nat), x]) := ⟨by show 2 ≤ sizeLine; decide, [.int i tk, u], .cons ⟨_, rfl⟩ (.cons ru .nil), ⟨_, hT2, rfl, _, rfl⟩⟩
    have I1 : Inv X pins σ (upd H s.heap.objs.size (.tup [.int (i : Nat), x])) { s with heap := hB, toks := tk + 1 } :=
      I.turnedNew (t' := tk + 1) (ch := [en, it]) (fun c ob hb q => (sb.2 c (fun z => hb (by simp [z]))).trans (hk c ob (fun z => hb (by simp [z])) (fun z => hb (by simp [z])) q)) hf (Nat.le_refl _) made
    refine ⟨.ref s.heap.objs.size, _, I1, rfl, ⟨_, x, rfl, I.hok.fresh (Nat.le_refl _), rfl, fun ys hy => by rw [sq_inj I hy hq]; exact hx⟩, ⟨⟨u, ?_⟩, si2.at fun o q => (sb.2 it n2.symm).trans q⟩, fun c hcm => ?_⟩
    · have next : ((i + 1 : Nat) : Int) = (i : Int) + 1 := by omega
      rw [next]
      exact isB
    · have small : c < s.heap.objs.size := by
        have e : c = en ∨ c = it := by simpa using hcm
        rcases e with q | q
        · rw [q]; exact enl
        · rw [q]; exact itl
      rw [upd_ne (Nat.ne_of_lt small)]
      exact (hf c hcm).1
  done := by
    intro X hP hw hK hc i pins s σ H E I hf st hg
    subst hP hw hK
    obtain ⟨⟨old, ie⟩, si⟩ := st
    obtain ⟨xs, hq, hx⟩ := hg
    obtain ⟨its, rv, sq, _⟩ := sq_seq I hq
    have li : its.toArray.size = i := by
      have := rv.length
      simp
      omega
    have dr := draws_of (prog := X.prog) (w := X.w) (A := X.A.in1) (I.ok.hd hc) it p n1 its
    rw [li] at dr
    exact PySem.wpAny_pyNext_enum_endD dr ie ⟨si, sq⟩ fun hA eb => ⟨rfl, I.turnedL (t' := s.toks) (ch := [en, it]) (fun c ob hb q => eb c ob (fun z => hb (by simp [z])) q) hf⟩
  self := fun A i s Q E st h => let ⟨⟨_, ie⟩, _⟩ := st; wpAny_pyIter_enum ie h
theorem walk_e {K : PySem.W.Frag} {p : Bool × Addr} {xs : List V} : Walk (ItE K p) xs.length (fun H => SqK K H p xs) (YPair (fun i => some (.int (i : Nat))) (fun i => xs[i]?)) :=
  ⟨fun i _ hi q => ⟨xs, xs[i], q, by simp [hi]⟩, fun _ q => ⟨xs, q, rfl⟩, fun i H v H2 _ q y => by
    obtain ⟨T, x, h1, h2, h3, h4⟩ := y
    exact ⟨T, _, x, h1, h2, h3, rfl, h4 xs q⟩⟩
/-- enumerate(e), e a list or a tuple -/
def iE (K : PySem.W.Frag) (ta : TA) : TI := fun σ H R => ta σ H fun vs H1 => ∃ p : Bool × Addr, vs = [.ref p.2] ∧ (∃ xs, SqK K H1 p xs) ∧ R (ItE K p) H1
theorem pi_e {X : Cx} {e : Expr} {ta : TA} {po pos tpos : Pos} {elts : List Expr} {kk : Nat} (hg : Gl X "enumerate") (hm : X.mg "enumerate" = none) (ha : PA X [e] ta) (hs : starEach [e] X.env = [(false, eval e X.env)] := by rfl) :
    PI X (.Tuple elts kk tpos) (.Call (.Name "enumerate" po) [e] [] pos) (iE X.K ta) := by
  refine ⟨fun pins s σ H R I h => ?_⟩
  refine Call_ (ld_blt I hg hm boot_enumerate (PyProof.Rows.callWith_type1 (thn (ha.run pos pins s σ H _ I h) fun us s0 ⟨vs, H1, I1, r1, q1⟩ => ?_) hs rfl))
  obtain ⟨p, ev, ⟨xs, hq⟩, q1⟩ := q1
  subst ev
  cases r1 with
  | cons r rr =>
    cases rr
    cases r
    obtain ⟨its, rv, sq, lt⟩ := sq_seq I1 hq
    refine enum_of (begins_of p its) sq fun hN ie io kk2 => wpAny_pyIter_enum ie ?_
    have I2 : Inv X pins σ H1 { s0 with heap := hN } := I1.kept (t' := s0.toks) kk2
    refine ⟨s0.heap.objs.size + 1, [s0.heap.objs.size + 1, s0.heap.objs.size], _, _, H1, rfl, I2, turn_e (Nat.ne_of_lt lt) (Nat.succ_ne_self _) (Nat.ne_of_gt (Nat.lt_succ_of_lt lt)), ⟨⟨.none, ie⟩, SqIt.begin io⟩, fun c hc => ?_, q1⟩
    have le : s0.heap.objs.size ≤ c := by
      have e : c = s0.heap.objs.size + 1 ∨ c = s0.heap.objs.size := by simpa using hc
      rcases e with z | z
      · rw [z]; exact Nat.le_add_right _ _
      · rw [z]; exact Nat.le_refl _
    exact I1.fpOk le (I1.hok.fresh le)
end CE

namespace CL
open PySem PySem.Spec PyProof.Rows L2
/-! ### set(l) of a list of ints -/
section
variable {pg : Program} {wo : World} {Ar : Around} {Ee : Value → Shared → Prop} {t : Shared}
set_option maxRecDepth 100000 in
set_option maxHeartbeats 3200000 in
theorem set_of_list {l : Addr} {its : Array Value} (ns : List Int) {Qe : Value → Shared → Prop} (calm : Ar.handled = none) (isl : t.heap.IsList l its) (intsA : IntsAre its.toList ns) (few : ns.length + 1 < scanBound)
    (goal : ∀ (hN : Heap) (k c : Nat), SetR wo hN t.heap.objs.size (fun j => decide (j ∈ ns)) c → c ≤ ns.length → (∀ b ob, t.heap.get? b = some ob → hN.get? b = some ob) → Qe (.ref t.heap.objs.size) { t with heap := hN, toks := k }) :
    wpAny (model pg wo) Ar (call (.type "set") [.ref l]) Qe Ee t := by
  have len : its.size = ns.length := by
    have z := IntsAre.length intsA
    rw [Array.length_toList] at z
    exact z
  obtain ⟨cc, tail, mro⟩ := PySem.F.called_set.mro
  have made := PySem.F.called_set.made
  have sub := PySem.F.called_set.sub
  refine wpAny_call (codeAny_of_tree ?_)
  show wpAny _ _ (callAny (.type "set") _) _ _ _
  refine wpAny_pure ⟨Code.quiet_builtin _ (by decide +kernel), codeAny_builtin PySem.F.entry_type_call ?_⟩
  rw [Around.under_plain (weight_type_call_type "set" [.ref l] []) rfl]
  have noType := PySem.F.called_set.notType
  have creates := PySem.F.called_set.canCreate
  have checked := PySem.F.typeCall_set_1 (.ref l)
  repeat (any_goals (first | assumption | wp_step))
  refine codeAny_mono (code_set_led1 (.ref l) (E := Ee) (Q₁ := fun ob t1 => ob = .ref t.heap.objs.size ∧ t1 = { t with heap := t.heap.push { cls := .type "set", dict := none, data := .set #[] 0 (.fresh 0 0 (!wo.params.followText "set-order")) } }) ⟨rfl, rfl⟩) fun r t1 hr => ?_
  cases r with
  | error e => exact hr
  | ok fl =>
    cases fl with
    | ret ob =>
      obtain ⟨rfl, rfl⟩ := hr
      have hS : (t.heap.push { cls := .type "set", dict := none, data := .set #[] 0 (.fresh 0 0 (!wo.params.followText "set-order")) }).get? t.heap.objs.size = some { cls := .type "set", dict := none, data := .set #[] 0 (.fresh 0 0 (!wo.params.followText "set-order")) } := Heap.get?_push_size _ rfl
      have tS : Shared.TypeIs { t with heap := t.heap.push { cls := .type "set", dict := none, data := .set #[] 0 (.fresh 0 0 (!wo.params.followText "set-order")) } } (.ref t.heap.objs.size) "set" := ⟨_, hS, rfl⟩
      have ini := PySem.F.called_set.init.lookup
      have bnd := PySem.F.called_set.init.bind (.ref t.heap.objs.size)
      repeat (any_goals (first | assumption | wp_step))
      refine codeAny_mono (codeAny_call_builtin (R := wants (fun r t2 => r = .none ∧ ∃ hN k c, t2 = { t with heap := hN, toks := k } ∧ SetR wo hN t.heap.objs.size (fun j => decide (j ∈ ns)) c ∧ c ≤ ns.length ∧
          (∀ b ob, t.heap.get? b = some ob → hN.get? b = some ob)) Ee) PySem.F.called_set.init.plain PySem.F.entry_set_init (check_set_init_1 tS ?_)) fun r2 t2 hr2 => ?_
      · obtain ⟨ol, hol, hcl, nl, hdl⟩ := id isl
        obtain ⟨ocls, odict, odata, oslots⟩ := ol
        simp only at hcl hdl
        subst hcl
        subst hdl
        have hol2 : (t.heap.push { cls := .type "set", dict := none, data := .set #[] 0 (.fresh 0 0 (!wo.params.followText "set-order")) }).get? l = some { cls := .type "list", dict := odict, data := .seq its nl, slots := oslots } := Heap.get?_push_of_some _ hol
        have s1 := PySem.F.sub_list_set
        have s2 := PySem.F.sub_list_frozenset
        have nd : (Value.type "list" == Value.type "dict") = false := by decide
        have isl2 : (t.heap.push { cls := .type "set", dict := none, data := .set #[] 0 (.fresh 0 0 (!wo.params.followText "set-order")) }).IsList l its := ⟨_, hol2, rfl, nl, rfl⟩
        unfold Builtin.«set.__init__» noKeywords Builtin.Frozenset.updateFrom
        generalize hPI : pyIter = PIt
        wp_walk
        subst hPI
        refine wpAny_pyIter_list isl2 ?_
        refine wpAny_bind (wpAny_runValue ?_)
        have lS : l < t.heap.objs.size := Heap.lt_size hol
        have calm3 : Ar.in1.in1.in1.handled = none := by simp [calm]
        have neI : l ≠ (t.heap.push { cls := .type "set", dict := none, data := .set #[] 0 (.fresh 0 0 (!wo.params.followText "set-order")) }).objs.size := by
          rw [Heap.size_push]
          exact Nat.ne_of_lt (Nat.lt_succ_of_lt lS)
        have notF : t.heap.objs.size ∉ [(t.heap.push { cls := .type "set", dict := none, data := .set #[] 0 (.fresh 0 0 (!wo.params.followText "set-order")) }).objs.size, l] := by
          rw [Heap.size_push]
          simp only [List.mem_cons, List.not_mem_nil, or_false, not_or]
          exact ⟨Nat.ne_of_lt (Nat.lt_succ_self _), Nat.ne_of_gt lS⟩
        have vals : ∀ (i : Nat) (v : Value), its[i]? = some v → ∃ k u, ns[i]? = some k ∧ v = .int k u := fun i v hv => by
          have hi : i < ns.length := by
            rw [← len]
            exact (Array.getElem?_eq_some_iff.mp hv).1
          obtain ⟨u, e⟩ := PyProof.Rows.IntsAre.int_at intsA i v (by rw [Array.getElem?_toList]; exact hv)
          refine ⟨ns[i], u, List.getElem?_eq_getElem hi, ?_⟩
          rw [e, List.getD_eq_getElem?_getD, List.getElem?_eq_getElem hi] <;> rfl
        refine set_update_ints ((Walks.list calm3 _ l neI its).toS) t.heap.objs.size notF ns len few vals (its.size - 0) 0 _ (by omega) (Nat.zero_le _) ⟨⟨_, Heap.get?_push_size _ rfl, rfl, rfl⟩, (isl2.push _)⟩ ?first ?last
        case first =>
          exact ⟨0, Nat.le_refl 0, setR_new_at (Heap.get?_push_of_some _ hS)⟩
        case last =>
          intro t3 c3 mv hc3 hS3
          obtain ⟨hN, g3, d3, k3, os3⟩ := t3
          obtain rfl : g3 = t.gens := mv.gens
          obtain rfl : d3 = t.drawn := mv.drawn
          obtain rfl : os3 = t.os := mv.os
          show wpAny _ _ _ _ _ _
          refine wpAny_pure ?_
          show wpAny _ _ (ret Value.none) _ _ _
          rw [len] at hc3
          refine wpAny_pure ⟨rfl, hN, k3, c3, rfl, hS3, hc3, fun b ob e => ?_⟩
          have b0 : b < t.heap.objs.size := Heap.lt_size e
          have b2 : b ≠ (t.heap.push { cls := .type "set", dict := none, data := .set #[] 0 (.fresh 0 0 (!wo.params.followText "set-order")) }).objs.size := by
            rw [Heap.size_push]
            exact Nat.ne_of_lt (Nat.lt_succ_of_lt b0)
          exact mv.heap b ob (by simp only [List.mem_cons, List.not_mem_nil, or_false, not_or]; exact ⟨Nat.ne_of_lt b0, b2⟩) (Heap.get?_push_of_some _ (Heap.get?_push_of_some _ e))
      · cases r2 with
        | error e => exact hr2
        | ok fl2 =>
          cases fl2 with
          | ret r =>
            obtain ⟨rfl, hN, k, c2, rfl, hS2, hc2, hk2⟩ := hr2
            repeat (any_goals (first | assumption | wp_step))
            exact goal _ _ _ hS2 hc2 hk2
          | _ => exact hr2.elim
    | _ => exact hr.elim
end
/-- set(l), l a list of ints -/
def rSetI (K : PySem.W.Frag) (w : World) : List V → Hp → VK → Prop := fun vs H Q => ∃ (a : Addr) (ns : List Int), vs = [V.ref a] ∧ SqL K H a (ns.map V.int) ∧ ns.length + 1 < scanBound ∧ ∀ p c, H p = none → c ≤ ns.length → Q (.ref p) (upd H p (SetO w p (fun j => decide (j ∈ ns)) c))
theorem call_setI {X : Cx} (hc : X.calm = true) : CallR X (.type "set") (rSetI X.K X.w) := by
  intro pins s σ H vs us Q I r h
  obtain ⟨a, ns, rfl, hl, few, q⟩ := h
  rw [Vals.ref1 r]
  obtain ⟨its, rv, pl, _⟩ := I.list hl
  refine set_of_list ns (I.ok.hd hc) pl.isList (by rw [List.toList_toArray]; exact intsAre_of rv) few fun hN k c new hcl keep => ?_
  exact ⟨.ref _, upd H s.heap.objs.size (SetO X.w s.heap.objs.size (fun j => decide (j ∈ ns)) c), I.laid (t' := k) keep (Nat.le_refl _) (setO_new new), rfl, q _ c (I.hok.fresh (Nat.le_refl _)) hcl⟩
end CL

namespace CS
open PySem PySem.Spec PyProof.Rows L2
/-! ### more rules beside the layer's -/
section
variable {X : Cx}
/-- o.f as a target -/
def gFld (K : PySem.W.Frag) (to : TE) (f : Str) : TG := fun v σ H Q => to σ H fun x H1 => ∃ a C dx fs, x = .ref a ∧ H1 a = some (.ins C dx fs) ∧ Cls K C ∧ NoAttr K C f ∧ fs.length < 1000 ∧ Q σ (upd H1 a (.ins C dx (putF f v fs)))
theorem pg_fld {o : Expr} {f : Str} {pos : Pos} {to : TE} (ho : PE X o to) : PG X (.Attribute o f pos) (gFld X.K to f) := by
  refine ⟨fun pins s σ H v u Q I r h => ?_⟩
  rw [assign_Attribute]
  refine wpAny_bind (wpAny_holding (thn (ho.run pins s σ H _ I h) fun ov s1 ⟨x, H1, I1, r1, a, C, dx, fs, ex, ea, c, n, l, q⟩ => ?_))
  subst ex
  obtain rfl : ov = Value.ref a := r1
  refine wpAny_bind (wpAny_standAt (wpAny_bind (wpAny_holding (setattr_ok I1 ea c n l r fun s3 I3 => ?_))))
  exact wpAny_release ⟨σ, _, I3, q⟩
theorem pe_fldK {e : Expr} {f : Str} {pos : Pos} {ta : TE} (K : PySem.W.Frag) (hk : X.K = K) (he : PE X e ta) (hb : attributeBase e f X.env (eval e X.env) = eval e X.env) : PE X (.Attribute e f pos) (tFld K ta f) := by
  subst hk
  exact pe_fld he hb
def rLenQ (K : PySem.W.Frag) : List V → Hp → VK → Prop := fun xs H Q => ∃ p ys, xs = [.ref p] ∧ (SqL K H p ys ∨ SqT K H p ys) ∧ Q (.int ys.length) H
def rListQ (K : PySem.W.Frag) : List V → Hp → VK → Prop := fun xs H Q => ∃ p ys, xs = [.ref p] ∧ (SqL K H p ys ∨ SqT K H p ys) ∧ ∀ l, H l = none → Q (.ref l) (upd H l (.lst ys))
def rTupleQ (K : PySem.W.Frag) : List V → Hp → VK → Prop := fun xs H Q => ∃ p ys, xs = [.ref p] ∧ ((SqL K H p ys ∧ ∀ l, H l = none → Q (.ref l) (upd H l (.tup ys))) ∨ (SqT K H p ys ∧ Q (.ref p) H))
/-- // by a divisor of either sign -/
def CDivNW (_ j : Int) : Prop := j ≠ 0 ∧ j.natAbs.log2 < 9000
theorem op_fdivNW : OpR X (binaryOp .FloorDiv) (rI CDivNW fun i j => .int (i.fdiv j)) := opI fun _ _ _ _ _ _ _ hc q => floordiv_int hc.1 q (.inl (PyProof.noPylong_of_log2 hc.2))
theorem wide_divN {i j : Int} {b : Nat} (h : j ≠ 0) (hb : j.natAbs < 2 ^ b) (h0 : 0 < b) (h9 : b ≤ 9000) : CDivNW i j := ⟨h, Nat.lt_of_lt_of_le (PySem.Flt.log2_lt_of h0 hb) h9⟩
theorem kit_self {K : PySem.W.Frag} {C : Addr} : PySem.W.kitOne K (.ref C) (.ref C) = some true := by
  unfold PySem.W.kitOne
  rw [if_pos (by simp)]
theorem pe_revLK {e : Expr} {te : TE} {k : Nat} {p1 p2 p3 pos : Pos} (K : PySem.W.Frag) (hk : X.K = K) (he : PE X e te) : PE X (.Subscript e (.Slice none none (some (.UnaryOp .USub (.Constant (.int 1) k p1) p2)) p3) pos) (tRevL K te) := by
  subst hk
  exact pe_revL he
/-- x in s, a list or a tuple of data -/
def rInQ (K : PySem.W.Frag) : R2 := fun x y H Q => ∃ d ds, Dp K H x d ∧ (Dp K H y (.list ds) ∨ Dp K H y (.tuple ds)) ∧ SeqAt.shaped d = true ∧ SeqAt.shaped (.list ds) = true ∧ Q (.bl (ds.any fun z => PyData.eqv z d)) H
def rNotInQ (K : PySem.W.Frag) : R2 := fun x y H Q => ∃ d ds, Dp K H x d ∧ (Dp K H y (.list ds) ∨ Dp K H y (.tuple ds)) ∧ SeqAt.shaped d = true ∧ SeqAt.shaped (.list ds) = true ∧ Q (.bl (!ds.any fun z => PyData.eqv z d)) H
theorem op_inQ (hu : X.A.units + 65 < cLine) : OpR X (compareOp .In) (rInQ X.K) := by
  intro pins s σ H x y v u Q I rx ry h
  obtain ⟨d, ds, hd, he, sd, se, q⟩ := h
  obtain ⟨as, r1⟩ := Dp.reads I d x v hd rx
  rcases he with he | he
  · obtain ⟨bs, r2⟩ := Dp.reads I (.list ds) y u he ry
    exact SeqAt.in_list_reads r2 r1 (SeqAt.canLay_of_shaped se) (SeqAt.canLay_of_shaped sd) (room_in_shaped sd hu) ⟨.bl _, H, I, rfl, q⟩
  · obtain ⟨bs, r2⟩ := Dp.reads I (.tuple ds) y u he ry
    exact SeqAt.in_tuple_reads r2 r1 (SeqAt.canLay_of_shaped se) (SeqAt.canLay_of_shaped sd) (room_in_shaped sd hu) ⟨.bl _, H, I, rfl, q⟩
theorem op_notInQ (hu : X.A.units + 65 < cLine) : OpR X (compareOp .NotIn) (rNotInQ X.K) := by
  intro pins s σ H x y v u Q I rx ry h
  obtain ⟨d, ds, hd, he, sd, se, q⟩ := h
  obtain ⟨as, r1⟩ := Dp.reads I d x v hd rx
  rcases he with he | he
  · obtain ⟨bs, r2⟩ := Dp.reads I (.list ds) y u he ry
    exact SeqAt.notIn_list_reads r2 r1 (SeqAt.canLay_of_shaped se) (SeqAt.canLay_of_shaped sd) (room_in_shaped sd hu) ⟨.bl _, H, I, rfl, q⟩
  · obtain ⟨bs, r2⟩ := Dp.reads I (.tuple ds) y u he ry
    exact SeqAt.notIn_tuple_reads r2 r1 (SeqAt.canLay_of_shaped se) (SeqAt.canLay_of_shaped sd) (room_in_shaped sd hu) ⟨.bl _, H, I, rfl, q⟩
end
end CS

-- dictcomps
namespace CD
open PySem PySem.Spec PyProof.Rows L2
/-- d[key] = v where the key is a tuple, within a comprehension -/
theorem putT {X : Cx} {pins : List (Addr × Obj)} {σ : L2.St} {H : Hp} {s : Shared} {E : Value → Shared → Prop} {D b : Addr} {kvs : List (List L2.Key × V)} {k : List L2.Key} {v : V} {r : Value} {Q : Unit → Shared → Prop} (hu : X.A.units + 1 < cLine)
    (I : Inv X pins σ H s) (hD : H D = some (.dT kvs)) (hz : kvs.length < sizeLine) (hb : H b = some (.tup (k.map kV))) (rv : RelV v r) (h : ∀ s2, Inv X pins σ (upd H D (.dT (putK kvs k v))) s2 → Q () s2) : wpAny (model X.prog X.w) X.A (dictSet D (.ref b) r) Q E s := by
  obtain ⟨z, hd, xs, rel, dd⟩ := dt_of I.hok hD
  have l1 : xs.length ≤ sizeLine := Paired.length rel ▸ z
  have l2 : (putK kvs k v).length ≤ sizeLine := Nat.le_trans (length_putK kvs k v) hz
  have hroom : (tupleKind (mixKind X.prog X.w)).room X.A := Nat.lt_of_succ_lt hu
  refine wpAny_dictSet_heap (hsz := l1) hroom (key_of I.hok hb) dd fun g dg sb => h _ ?_
  obtain ⟨q, es, ep, hq, c2, c3, c4, _, c5⟩ := dg
  refine d_write I (by rw [hD]; exact True.intro) sb ⟨q, hq⟩ ⟨l2, hd, _, (rel.put k hb rv).keeps (fun c ys ec => ?_), q, es, ep, hq, c2, c3, c4, c5⟩
  rw [upd_ne (ne_of ec hD (fun z => nomatch z))]
  exact ec
section
variable {X : Cx}
/-- {k: v for target in iter if ..} where the keys are tuples -/
def tDcT (wi : TI) (g : TG) (tt : TT) (tk tv : TE) (vs : List Nat) : TE := fun σ H Q => wi σ H fun J H1 => ∀ D, H1 D = none → ∃ W : Nat → Nat → Hp → Prop, (∃ m, W 0 m (upd H1 D (.dT []))) ∧ ∀ i m H, W i m H →
  (J.stop i H ∧ Q (.ref D) H) ∨ (J.go i H ∧ ∃ Nx : Hp → Prop, (∀ H', Nx H' → ∃ m', m' < m ∧ W (i + 1) m' H') ∧ ∀ x H', J.yld i H x H' → g x (wipe σ vs) H' fun σ2 H2 => wipe σ2 vs = wipe σ vs ∧ tt σ2 H2 fun b H3 =>
    if b = true then tk σ2 H3 fun y H4 => tv σ2 H4 fun z H5 => ∃ kvs k b, y = .ref b ∧ H5 b = some (.tup (k.map kV)) ∧ H5 D = some (.dT kvs) ∧ kvs.length < sizeLine ∧ Nx (upd H5 D (.dT (putK kvs k z))) else Nx H3)
theorem dcT_run {pins : List (Addr × Obj)} {s : Shared} {σ : L2.St} {H : Hp} {Q : VK} {kx vx tg iter : Expr} {ifs : List Expr} {scope : Scope} {own : List (Str × Nat)} {pos pos' : Pos} {wi : TI} {g : TG} {tt : TT} {tk tv : TE} {use : Option (Value → Sem Unit)} {Qf : Value → Shared → Prop}
    (hu : X.A.units + 1 < cLine) (calm : X.calm = true) (nod : X.N.Nodup) (I : Inv X pins σ H s) (hi : PI X tg iter wi) (ok : BlkOk X.N X.env.scope scope own)
    (gg : ∀ (s : Shared) (H : Hp) (C : Addr) (cl : List (Str × Addr)) (fp : List Addr), PG (X.blk s H scope (compEnvC scope cl C X.env) fp) tg g)
    (gt : ∀ (s : Shared) (H : Hp) (C : Addr) (cl : List (Str × Addr)) (fp : List Addr), PTs (X.blk s H scope (compEnvC scope cl C X.env) fp) ifs tt)
    (gk : ∀ (s : Shared) (H : Hp) (C : Addr) (cl : List (Str × Addr)) (fp : List Addr), PE (X.blk s H scope (compEnvC scope cl C X.env) fp) kx tk)
    (gv : ∀ (s : Shared) (H : Hp) (C : Addr) (cl : List (Str × Addr)) (fp : List Addr), PE (X.blk s H scope (compEnvC scope cl C X.env) fp) vx tv) (fold : ∀ x, foldedSetIterable iter X.env x = pure x)
    (h : tDcT wi g tt tk tv (own.map (·.2)) σ H Q)
    (post : ∀ D C s' m H', Inv X pins σ H' s' → Q (.ref D) H' → s'.heap.Ns C m → FpOk X pins H' C → compPost (model X.prog X.w) X.A X.xe use Qf (.ref D) C (.ok .next) s') :
    wpAny (model X.prog X.w) X.A (comprehension (.DictComp kx vx [⟨tg, iter, ifs, 0⟩] scope pos) scope X.env pos' newDict false (eval iter X.env) use) Qf X.xe s := by
  have hasC : ∀ y ∈ scope.names, y.2 = .free → ∃ c, X.env.cells.lookup y.1 = some c := fun y hy e => I.ok.has _ (ok.free y hy e)
  refine wpAny_comprehension_free (use := use) rfl fold (closure_ok hasC) ok.kind (fun y hy e => by rw [ok.uniq y hy, e]) (thn (hi.run pins s σ H _ I h) fun xv s1 hx => thn hx fun itv s2 h2 => ?_)
  obtain ⟨it, fp, tn, J, H2, rfl, I2, T, at2, free2, q⟩ := h2
  refine wpAny_newObj_type (newEnv_comp ?_)
  generalize eD : s2.heap.objs.size = D
  have newD : H2 D = none := I2.hok.fresh (Nat.le_of_eq eD)
  obtain ⟨W, ⟨m0, w0⟩, turn⟩ := q D newD
  generalize es3 : ({ s2 with heap := s2.heap.push { cls := .type "dict", data := .dict #[] } } : Shared) = s3
  have hp3 : s3.heap = s2.heap.push { cls := .type "dict", data := .dict #[] } := by rw [← es3]
  generalize eH3 : upd H2 D (.dT []) = H3
  have I3 : Inv X pins σ H3 s3 := by
    subst es3 eH3
    refine I2.laid (t' := s2.toks) (fun b o e => Heap.get?_push_of_some _ e) (Nat.le_of_eq eD) ?_
    subst eD
    exact dt_empty s2.heap I2.big
  have low : ∀ b ∈ fp, b < s2.heap.objs.size := fun b hb => let ⟨_, e, _⟩ := T.obj _ _ at2 b hb; Heap.lt_size e
  have free3 : ∀ b ∈ fp, FpOk X pins H3 b ∧ b < s3.heap.objs.size := fun b hb => by
    have lt := low b hb
    refine ⟨⟨?_, (free2 b hb).2⟩, by rw [hp3, Heap.size_push]; exact Nat.lt_succ_of_lt lt⟩
    rw [← eH3, upd_ne (by rw [← eD]; exact Nat.ne_of_lt lt)]
    exact (free2 b hb).1
  have at3 : tn 0 s3.heap := T.keep _ _ _ at2 fun b _ o e => hp3 ▸ Heap.get?_push_of_some _ e
  have I4 := block_start I3 ok nod free3
  generalize eC : s3.heap.objs.size = C at I4
  generalize ecl : cellsFrom (C + 1) scope.names (cloFrom X.env.cells scope.names []) = cl at I4
  have pg := gg s3 H3 C cl fp
  have pt := gt s3 H3 C cl fp
  have pk := gk s3 H3 C cl fp
  have pv := gv s3 H3 C cl fp
  have none3 : ∀ b ∈ fp, H3 b = none := fun b hb => (free3 b hb).1.1
  subst ecl eC
  generalize ece : compEnvC scope (cellsFrom (s3.heap.objs.size + 1) scope.names (cloFrom X.env.cells scope.names [])) s3.heap.objs.size X.env = ce at I4 pg pt pk pv
  have loc : ce.locals = s3.heap.objs.size := by subst ece; rfl
  generalize es4 : ({ s3 with heap := pushCells (s3.heap.push { cls := .type "dict", data := .dict #[] }) scope.names } : Shared) = s4 at I4
  have at4 : tn 0 s4.heap := T.keep _ _ _ at3 fun b _ o e => es4 ▸ pushCells_keeps _ _ _ _ (Heap.get?_push_of_some _ e)
  have wEq : W 0 m0 H3 := eH3 ▸ w0
  have quiet : ∀ {τ : L2.St} {G : Hp} {t : Shared}, Inv (X.blk s3 H3 scope ce fp) [] τ G t → (∀ b ∈ fp, G b = none) → ∀ b ∈ fp, FpOk (X.blk s3 H3 scope ce fp) [] G b := fun {τ G t} J hn b hb =>
    ⟨hn b hb, (J.ok.exf b hb).1, J.ok.exfs b hb, .inl hb, (J.ok.exf b hb).2, fun p hp => absurd (show p ∈ ([] : List (Addr × Obj)) ++ [] from hp) (by simp)⟩
  have run : codeAny (model X.prog X.w) X.A (.compLoop (.DictComp kx vx [⟨tg, iter, ifs, 0⟩] scope pos) 0 (.ref it) (.ref D) ce) (compPost (model X.prog X.w) X.A X.xe use Qf (.ref D) s3.heap.objs.size) s4 := by
    refine compLoop_anyD (fun n t => ∃ i G, Inv (X.blk s3 H3 scope ce fp) [] (wipe σ (own.map (·.2))) G t ∧ tn i t.heap ∧ (∀ b ∈ fp, G b = none) ∧ W i n G) ?_ m0 ⟨0, H3, I4, at4, none3, wEq⟩
    rintro n t5 ⟨i, G5, I5, at5, n5, w5⟩
    rcases turn i n G5 w5 with ⟨stop, qq⟩ | ⟨go, Nx, hNx, step⟩
    · refine thnF (T.done (X.blk s3 H3 scope ce fp) rfl rfl rfl calm i [] t5 _ G5 (fun _ _ => False) I5 (quiet I5 n5) at5 stop) fun r t6 ⟨er, I6⟩ => ?_
      subst er
      have I7 : Inv X pins σ G5 t6 := I3.call' (ch := fp) I6.os I6.base I6.hok I6.bare fun b hb => let z := (free3 b hb).1.2; ⟨z.2.2.1, z.1, z.2.2.2.1, z.2.2.2.2⟩
      have nC : G5 s3.heap.objs.size = none := loc ▸ (show G5 ce.locals = none from I6.free)
      obtain ⟨m, hn, _⟩ := I6.loc
      replace hn : t6.heap.Ns s3.heap.objs.size m := loc ▸ (show t6.heap.Ns ce.locals m from hn)
      exact post D s3.heap.objs.size t6 m G5 I7 qq hn (I3.fpOk (Nat.le_refl _) nC)
    · refine thnF (T.item (X.blk s3 H3 scope ce fp) rfl rfl rfl calm i [] t5 _ G5 (fun _ _ => False) I5 (quiet I5 n5) at5 go) fun r t6 ⟨u, er, h6⟩ => ?_
      subst er
      refine thnF h6 fun _ t7 ⟨x, G7, I7, r7, y7, at7, n7⟩ => ?_
      refine thnF (pg.run _ t7 _ G7 x u _ (I7.pinned (quiet I7 n7) (T.obj _ _ at7)) r7 (step x G7 y7)) fun _ t8 ⟨σ8, G8, I8, hw, q8⟩ => ?_
      refine thnF (pt.run _ t8 σ8 G8 _ I8 q8) fun b t9 ⟨G9, I9, q9⟩ => ?_
      have fin : ∀ {t : Shared} {G : Hp}, Inv (X.blk s3 H3 scope ce fp) ([] ++ pinsAt fp t7.heap) σ8 G t → Nx G → ∃ m, m < n ∧ ∃ j G2, Inv (X.blk s3 H3 scope ce fp) [] (wipe σ (own.map (·.2))) G2 t ∧ tn j t.heap ∧ (∀ b ∈ fp, G2 b = none) ∧ W j m G2 := fun {t G} IG nx => by
        obtain ⟨m2, lt, w2⟩ := hNx G nx
        have stay : ∀ b ∈ fp, ∀ o, t7.heap.get? b = some o → t.heap.get? b = some o ∧ G b = none := fun b hb o e => ⟨(IG.pin (b, o) (List.mem_append_right _ (List.mem_append_right _ (mem_pinsAt hb e)))).1, (IG.pin (b, o) (List.mem_append_right _ (List.mem_append_right _ (mem_pinsAt hb e)))).2.1⟩
        have len : (wipe σ (own.map (·.2))).length = σ8.length := by rw [← hw, wipe_length]
        refine ⟨m2, lt, i + 1, G, (IG.unpinned (pins := [])).weak len (fun j v e => (wipe_some (hw ▸ e)).1), T.keep _ _ _ at7 fun b hb o e => (stay b hb o e).1, fun b hb => ?_, w2⟩
        obtain ⟨o, e, _⟩ := T.obj _ _ at7 b hb
        exact (stay b hb o e).2
      cases b with
      | false =>
        rw [if_neg Bool.false_ne_true] at q9 ⊢
        exact fin I9 q9
      | true =>
        rw [if_pos rfl] at q9 ⊢
        refine thnF (pk.run _ t9 σ8 G9 _ I9 q9) fun z ta ⟨yk, Ga, Ia, ra, qa⟩ => ?_
        refine thnF (pv.run _ ta σ8 Ga _ Ia qa) fun z2 tb ⟨yv, Gb, Ib, rb, kvs, k, bb, ek, hbb, hDb, hz, nx⟩ => ?_
        subst ek
        cases (show z = Value.ref bb from ra)
        exact putT (X := X.blk s3 H3 scope ce fp) hu Ib hDb hz hbb rb fun tc Ic => fin Ic nx
  subst ece
  exact codeAny_compStart_dict run (T.self X.A 0 _ _ _ at4 run)
theorem pe_dcT {kx vx tg iter : Expr} {ifs : List Expr} {scope : Scope} {own : List (Str × Nat)} {pos : Pos} {wi : TI} {g : TG} {tt : TT} {tk tv : TE} (hu : X.A.units + 1 < cLine) (calm : X.calm = true) (nod : X.N.Nodup) (hi : PI X tg iter wi) (ok : BlkOk X.N X.env.scope scope own)
    (gg : ∀ (s : Shared) (H : Hp) (C : Addr) (cl : List (Str × Addr)) (fp : List Addr), PG (X.blk s H scope (compEnvC scope cl C X.env) fp) tg g)
    (gt : ∀ (s : Shared) (H : Hp) (C : Addr) (cl : List (Str × Addr)) (fp : List Addr), PTs (X.blk s H scope (compEnvC scope cl C X.env) fp) ifs tt)
    (gk : ∀ (s : Shared) (H : Hp) (C : Addr) (cl : List (Str × Addr)) (fp : List Addr), PE (X.blk s H scope (compEnvC scope cl C X.env) fp) kx tk)
    (gv : ∀ (s : Shared) (H : Hp) (C : Addr) (cl : List (Str × Addr)) (fp : List Addr), PE (X.blk s H scope (compEnvC scope cl C X.env) fp) vx tv) (fold : ∀ x, foldedSetIterable iter X.env x = pure x := by intro _; rfl) :
    PE X (.DictComp kx vx [⟨tg, iter, ifs, 0⟩] scope pos) (tDcT wi g tt tk tv (own.map (·.2))) := by
  refine ⟨fun pins s σ H Q I h => ?_⟩
  rw [arm_eval_DictComp]
  refine dcT_run hu calm nod I hi ok gg gt gk gv fold h fun D C t m G IG q hn f => ⟨m, hn, fun g2 sb => ?_⟩
  exact ⟨.ref D, G, IG.turned (t' := t.toks) (fun b o hb e => (sb.2 b hb).trans e) f.1 f.2.1 f.2.2.2.1 f.2.2.2.2.1 f.2.2.2.2.2, rfl, q⟩
end
/-- over anything that is walked: the keys and values are known from the start -/
theorem dcT_it {J : It} {n : Nat} {G : Hp → Prop} {Y : Nat → Hp → V → Hp → Prop} (w : Walk J n G Y) {g : TG} {tt : TT} {tk tv : TE} {vs : List Nat} {σ : L2.St} {H1 : Hp} {D : Addr} {Qd : Hp → Prop} (Pv : Nat → Hp → Prop) (h0 : Pv 0 (upd H1 D (.dT []))) (hl : ∀ i H, i ≤ n → Pv i H → G H)
    (hs : ∀ i x H H2, i < n → Pv i H → Y i H x H2 → g x (wipe σ vs) H2 fun σ2 H3 => wipe σ2 vs = wipe σ vs ∧ tt σ2 H3 fun b H4 =>
      if b = true then tk σ2 H4 fun y H5 => tv σ2 H5 fun z H6 => ∃ kvs k b, y = .ref b ∧ H6 b = some (.tup (k.map kV)) ∧ H6 D = some (.dT kvs) ∧ kvs.length < sizeLine ∧ Pv (i + 1) (upd H6 D (.dT (putK kvs k z))) else Pv (i + 1) H4)
    (hd : ∀ H, Pv n H → Qd H) :
    ∃ W : Nat → Nat → Hp → Prop, (∃ m, W 0 m (upd H1 D (.dT []))) ∧ ∀ i m H, W i m H →
      (J.stop i H ∧ Qd H) ∨ (J.go i H ∧ ∃ Nx : Hp → Prop, (∀ H', Nx H' → ∃ m', m' < m ∧ W (i + 1) m' H') ∧ ∀ x H', J.yld i H x H' → g x (wipe σ vs) H' fun σ2 H2 => wipe σ2 vs = wipe σ vs ∧ tt σ2 H2 fun b H3 =>
        if b = true then tk σ2 H3 fun y H4 => tv σ2 H4 fun z H5 => ∃ kvs k b, y = .ref b ∧ H5 b = some (.tup (k.map kV)) ∧ H5 D = some (.dT kvs) ∧ kvs.length < sizeLine ∧ Nx (upd H5 D (.dT (putK kvs k z))) else Nx H3) := by
  refine ⟨fun i m H => m = n - i ∧ i ≤ n ∧ Pv i H, ⟨n, rfl, Nat.zero_le _, h0⟩, ?_⟩
  rintro i m H ⟨rfl, hi, p⟩
  have q := hl i H hi p
  by_cases c : i < n
  · exact .inr ⟨w.goes i H c q, Pv (i + 1), fun H2 p2 => ⟨n - (i + 1), by omega, rfl, c, p2⟩, fun x H2 y => hs i x H H2 c p (w.yields i H x H2 c q y)⟩
  · obtain rfl : i = n := by omega
    exact .inl ⟨w.stops H q, hd H p⟩
/-- kvs with the pairs of more put in -/
def mergeT (kvs more : List (List L2.Key × V)) : List (List L2.Key × V) := more.foldl (fun acc p => putK acc p.1 p.2) kvs
theorem mergeT_len (kvs : List (List L2.Key × V)) : ∀ more : List (List L2.Key × V), (mergeT kvs more).length ≤ kvs.length + more.length := fun more => by
  induction more generalizing kvs with
  | nil => exact Nat.le_refl _
  | cons p r ih =>
    have a := ih (putK kvs p.1 p.2)
    have b := length_putK kvs p.1 p.2
    simp only [mergeT, List.foldl_cons, List.length_cons] at *
    omega
theorem KT.merge {H : Hp} : ∀ {more : List (List L2.Key × V)} {ys : List (List L2.Key × Addr × Value)} {kvs : List (List L2.Key × V)} {xs : List (List L2.Key × Addr × Value)}, KT H more ys → KT H kvs xs → KT H (mergeT kvs more) (storedAllH xs ys)
  | _, _, _, _, .nil, h => h
  | (k, v) :: _, (k2, b, u) :: _, kvs, xs, .cons ⟨e, hb, rv⟩ t, h => by
    obtain rfl : k = k2 := e
    exact KT.merge (kvs := putK kvs k v) (xs := storedH xs k b u) t (h.put k hb rv)
section
variable {X : Cx}
/-- d.update(e), both keyed by tuples -/
def rUpdT : V → List V → Hp → VK → Prop := fun x xs H Q => ∃ (a b : Addr) (kvs more : List (List L2.Key × V)), x = .ref a ∧ xs = [.ref b] ∧ a ≠ b ∧ H a = some (.dT kvs) ∧ H b = some (.dT more) ∧ (kvs ≠ [] ∨ more = []) ∧ kvs.length + more.length ≤ sizeLine ∧ Q .non (upd H a (.dT (mergeT kvs more)))
theorem mt_updT (hu : X.A.units + 1 < cLine) : MtR X "dict.update" rUpdT := by
  intro pins s σ H x xs v us Q I rx rxs h
  obtain ⟨a, b, kvs, more, rfl, rfl, ne, ha, hb, nn, le, q⟩ := h
  cases rx
  cases rxs with
  | cons r1 r2 =>
    cases r1
    cases r2
    obtain ⟨z, hd, xs1, rel, dd⟩ := dt_of I.hok ha
    obtain ⟨z2, hd2, xs2, rel2, dd2⟩ := dt_of I.hok hb
    have l1 : kvs.length = xs1.length := Paired.length rel
    have l2 : more.length = xs2.length := Paired.length rel2
    refine call_update_dictH (tupleKind_room_in1 hu) ne hd2 dd dd2 (nn.imp (fun nn e => nn (List.length_eq_zero_iff.mp (by rw [l1, e]; rfl))) fun e => (by
      have e2 : xs2 = [] := List.length_eq_zero_iff.mp (by rw [← l2, e]; rfl)
      rw [e2]
      exact ⟨(fun x hx => by cases hx), .nil⟩)) (by omega) fun h' dd' _ hs => ?_
    obtain ⟨o, es, ep, hq, h2, h3, h4, _, h5⟩ := dd'
    refine ⟨.non, _, d_write (ob := .dT (mergeT kvs more)) (t' := s.toks) I (by rw [ha]; exact True.intro) hs ⟨o, hq⟩ ⟨Nat.le_trans (mergeT_len kvs more) le, hd, _, (KT.merge rel2 rel).keeps (fun c ys ec => (by rw [upd_ne (ne_of ec ha (fun z => nomatch z))]; exact ec)), o, es, ep, hq, h2, h3, h4, h5⟩, rfl, q⟩
end
end CD

namespace CD
open PySem PySem.Spec PyProof.Rows L2
/-- the view d.values() -/
def valsO (p d : Addr) : HO := .ext fun h => h.IsValuesView p d
theorem DTpget {α β : Type} {F : α → β → Prop} : ∀ {l₁ : List α} {l₂ : List β} {j : Nat} {x : β}, Paired F l₁ l₂ → l₂[j]? = some x → ∃ y, l₁[j]? = some y ∧ F y x
  | _, _, _, _, .nil, h => by simp at h
  | _, _, 0, _, .cons r _, h => ⟨_, rfl, by obtain rfl := Option.some.inj h; exact r⟩
  | _, _, j + 1, _, .cons _ t, h => DTpget (j := j) t h
section
variable {X : Cx}
def rValuesT : V → List V → Hp → VK → Prop := fun x xs H Q => ∃ (a : Addr) (kvs : List (List L2.Key × V)), x = .ref a ∧ xs = [] ∧ H a = some (.dT kvs) ∧ ∀ p, H p = none → Q (.ref p) (upd H p (valsO p a))
theorem mt_valuesT : MtR X "dict.values" rValuesT := by
  intro pins s σ H x xs v us Q I rx rxs h
  obtain ⟨a, kvs, rfl, rfl, ha, q⟩ := h
  cases rx
  cases rxs
  obtain ⟨z, hd, ys, rel, o, es, ep, ho, hx, hdat, _⟩ := dt_of I.hok ha
  have raw : s.heap.DictRaw a es ep := ⟨o, ho, hx, hdat⟩
  refine call_meetsIn PySem.F.slot_dict_values raw.typeIs PySem.F.entry_dict_values (PySem.F.args_dict_values_1 _) (meets_dict_values_raw a hd) ⟨⟨es, ep, raw⟩, ?_⟩
  have new : ObjOk X.prog X.w (upd H s.heap.objs.size (valsO s.heap.objs.size a)) (s.heap.push { cls := .type "dict_values", data := .fields #[.ref a] }) s.heap.objs.size (valsO s.heap.objs.size a) :=
    ⟨⟨_, Heap.get?_push_size _ rfl, rfl, rfl⟩, ⟨_, Heap.get?_push_size _ rfl⟩, fun h1 h2 y k => let ⟨u, hu, r⟩ := y; ⟨u, k u hu, r⟩⟩
  exact ⟨.ref s.heap.objs.size, _, I.laid (t' := s.toks) (fun b u e => Heap.get?_push_of_some _ e) (Nat.le_refl _) new, rfl, q _ (I.hok.fresh (Nat.le_refl _))⟩
/-- max(d.values()), whole numbers -/
def rMaxT : List V → Hp → VK → Prop := fun xs H Q => ∃ (p a : Addr) (kvs : List (List L2.Key × V)) (is : List Int), xs = [.ref p] ∧ H p = some (valsO p a) ∧ H a = some (.dT kvs) ∧ kvs.map (·.2) = is.map V.int ∧ is ≠ [] ∧ ∀ m, m ∈ is → (∀ j ∈ is, j ≤ m) → Q (.int m) H
theorem cr_maxT (calm : X.calm = true) : CallR X (.builtin "max") rMaxT := by
  intro pins s σ H xs us Q I r h
  obtain ⟨p, a, kvs, is, rfl, hp, ha, hv, hne, q⟩ := h
  rw [Vals.ref1 r]
  obtain ⟨z, hd, ys, rel, o, es, ep, ho, hx, hdat, hes, _⟩ := dt_of I.hok ha
  have raw : s.heap.DictRaw a es ep := ⟨o, ho, hx, hdat⟩
  have view : s.heap.IsValuesView p a := (show ObjOk X.prog X.w H s.heap p (valsO p a) from I.hok p _ hp).1
  have l1 : es.size = ys.length := by rw [← Array.length_toList, hes, List.length_map]
  have l2 : kvs.length = ys.length := Paired.length rel
  have l3 : is.length = kvs.length := by
    have := congrArg List.length hv
    rw [List.length_map, List.length_map] at this
    exact this.symm
  have hval : ∀ (i : Nat) (v : Value), (∃ hi : i < es.size, v = es[i].val) → ∃ t, v = Value.int (is.getD i 0) t := fun i v ⟨hi, e⟩ => by
    subst e
    have iy : i < ys.length := by omega
    have e1 : es[i] = entryOfKey (tupleKind (mixKind X.prog X.w)) ys[i] := by
      have : es.toList[i]? = some es[i] := by rw [Array.getElem?_toList, Array.getElem?_eq_getElem hi]
      rw [hes, List.getElem?_map, List.getElem?_eq_getElem iy] at this
      exact (Option.some.inj this).symm
    obtain ⟨y, hy, f1, f2, f3⟩ := DTpget rel (List.getElem?_eq_getElem iy)
    have e2 : (kvs.map (·.2))[i]? = some y.2 := by rw [List.getElem?_map, hy]; rfl
    rw [hv, List.getElem?_map] at e2
    obtain ⟨j, hj, e3⟩ := Option.map_eq_some_iff.mp e2
    rw [← e3] at f3
    obtain ⟨t, f3⟩ := f3
    refine ⟨t, ?_⟩
    rw [e1, List.getD_eq_getElem?_getD, hj]
    exact f3
  refine call_max_walk (wpAny_pyIter_values_raw view raw ?_)
  generalize hI : s.heap.objs.size = it
  have al : a < s.heap.objs.size := Heap.lt_size ho
  generalize hh : s.heap.push { cls := .type "dict_valueiterator", data := .fields #[.ref a, .int 0 0, .int es.size 0, .int ep 0] } = h2
  have keep : ∀ b u, s.heap.get? b = some u → h2.get? b = some u := fun b u e => hh ▸ Heap.get?_push_of_some _ e
  have raw2 : h2.DictRaw a es ep := ⟨o, keep _ _ ho, hx, hdat⟩
  have at2 : h2.get? it = some { cls := .type "dict_valueiterator", data := .fields #[.ref a, .int 0 0, .int es.size 0, .int ep 0] } := by rw [← hh, ← hI]; exact Heap.get?_push_size _ rfl
  have sz2 : h2.objs.size = it + 1 := by rw [← hh, Heap.size_push, hI]
  have nea : a ≠ it := by rw [← hI]; exact Nat.ne_of_lt al
  refine ⟨it, _, _, _, _, _, _, rfl, Walks.rawValues (A := X.A.in1) (I.ok.hd calm) it a nea es ep, ⟨⟨_, at2, rfl, rfl⟩, raw2⟩, fun b hb => ?_, by have := List.length_pos_iff.mpr hne; omega, CmpOf.ints_gt (fun i => is.getD i 0) hval, fun v h3 tk hP hk => ?_⟩
  · show b < h2.objs.size
    rw [sz2]
    rcases List.mem_cons.mp hb with e | hb
    · rw [e]
      exact Nat.lt_succ_self _
    · rw [List.mem_singleton.mp hb, ← hI]
      exact Nat.lt_succ_of_lt al
  · obtain ⟨t, rfl⟩ := hval _ v hP
    obtain ⟨b1, b2⟩ := argBest_gt (fun i => is.getD i 0) (es.size - 1)
    have inb : argBest (fun i j => decide (is.getD i 0 > is.getD j 0)) (es.size - 1) < is.length := by
      have := List.length_pos_iff.mpr hne
      omega
    refine ⟨.int _, H, I.kept (t' := tk) fun b u e => hk b u (fun hm => ?_) (keep b u e), ⟨t, rfl⟩, q _ ?_ fun j hj => ?_⟩
    · have e1 : b = it := List.mem_singleton.mp hm
      have e2 := Heap.lt_size e
      rw [e1, hI] at e2
      exact absurd e2 (Nat.lt_irrefl _)
    · rw [List.getD_eq_getElem?_getD, List.getElem?_eq_getElem inb]
      exact List.getElem_mem inb
    · obtain ⟨i, hi⟩ := List.mem_iff_getElem?.mp hj
      have il := (List.getElem?_eq_some_iff.mp hi).1
      have := b2 i (by omega)
      rw [List.getD_eq_getElem?_getD, hi] at this
      exact this
end
end CD

namespace CD
open PySem PySem.Spec PyProof.Rows L2
/-- a slice's part that may be None -/
def tPartO (t : TE) : TO := fun σ H Q => t σ H fun x H1 => (x = .non ∧ Q none H1) ∨ ∃ i, x = .int i ∧ Q (some i) H1
theorem po_opt {X : Cx} {e : Expr} {te : TE} (h : PE X e te) : PO X (some e) (tPartO te) := by
  refine ⟨fun pins s σ H Q I hw => ?_⟩
  rw [evalPart_some]
  refine thn (h.run pins s σ H _ I hw) fun u s1 ⟨x, H1, I1, r1, q1⟩ => ?_
  rcases q1 with ⟨rfl, q⟩ | ⟨i, rfl, q⟩
  · obtain rfl : u = Value.none := r1
    exact ⟨none, H1, I1, .none, q⟩
  · obtain ⟨t, rfl⟩ := r1
    exact ⟨some i, H1, I1, .int i t, q⟩
end CD

-- dictcomps
namespace CD
open PySem PySem.Spec PyProof.Rows L2
/-! ### name = {k: v for ..} on one line, the name a local -/
theorem sw_trueD {kx vx : Expr} {gs : List Comprehension} {scope : Scope} {pos py : Pos} {y : Str} {l : Nat} {env : Env} (hk : env.scope.kind = .function) (hy : env.scope.names.lookup y = some .local) (hl : (py.line == pos.line) = true)
    (ha : (scope.names.any fun (n, k) => n == y && (k == .local || k == .cell)) = false) : swapsWith (.DictComp kx vx gs scope pos) (some (.Name y py)) l env = pure true := by
  have ky : env.kindOf y = some .local := hy
  have hb : env.blockKind = .function := by unfold Env.blockKind; rw [hk]; rfl
  unfold swapsWith
  simp only [hb, ky, ha, Expr.pos, hl]
  rfl
section
variable {X : Cx}
theorem ps_setDcT {i : Nat} {y : Str} {py : Pos} {kx vx tg iter : Expr} {ifs : List Expr} {scope : Scope} {own : List (Str × Nat)} {pos spos : Pos} {wi : TI} {g : TG} {tt : TT} {tk tv : TE} (hu : X.A.units + 1 < cLine) (calm : X.calm = true) (nod : X.N.Nodup) (hy : X.N[i]? = some y) (hyl : X.env.scope.names.lookup y = some .local)
    (hsw : swapsWith (.DictComp kx vx [⟨tg, iter, ifs, 0⟩] scope pos) (some (.Name y py)) spos.line X.env = pure true) (hi : PI X tg iter wi) (ok : BlkOk X.N X.env.scope scope own)
    (gg : ∀ (s : Shared) (H : Hp) (C : Addr) (cl : List (Str × Addr)) (fp : List Addr), PG (X.blk s H scope (compEnvC scope cl C X.env) fp) tg g)
    (gt : ∀ (s : Shared) (H : Hp) (C : Addr) (cl : List (Str × Addr)) (fp : List Addr), PTs (X.blk s H scope (compEnvC scope cl C X.env) fp) ifs tt)
    (gk : ∀ (s : Shared) (H : Hp) (C : Addr) (cl : List (Str × Addr)) (fp : List Addr), PE (X.blk s H scope (compEnvC scope cl C X.env) fp) kx tk)
    (gv : ∀ (s : Shared) (H : Hp) (C : Addr) (cl : List (Str × Addr)) (fp : List Addr), PE (X.blk s H scope (compEnvC scope cl C X.env) fp) vx tv) (fold : ∀ x, foldedSetIterable iter X.env x = pure x := by intro _; rfl) :
    PS X (.Assign [.Name y py] (.DictComp kx vx [⟨tg, iter, ifs, 0⟩] scope pos) spos) (tAsg (tDcT wi g tt tk tv (own.map (·.2))) (gName i)) := by
  refine ⟨fun pins s σ H D I h => ?_⟩
  rw [exec_Assign_Name_used _ _ _ _ hsw]
  refine wpAny_bind (wpAny_standAt (wpAny_bind ?_))
  show wpAny _ X.A (do let _ ← comprehension (.DictComp kx vx [⟨tg, iter, ifs, 0⟩] scope pos) scope X.env (firstIterPos [⟨tg, iter, ifs, 0⟩] pos) newDict false (eval iter X.env) (some (assign (.Name y py) X.env))) _ _ s
  have h : tDcT wi g tt tk tv (own.map (·.2)) σ H (fun x H1 => gName i x σ H1 D.nx) := h
  refine wpAny_bind (thn (dcT_run (Qf := fun _ s' => SP X pins D .next s') hu calm nod I hi ok gg gt gk gv fold h fun L C s' m H' I' q hn f => ?_) fun _ s' hq => wpAny_pure (wpAny_pure hq))
  show wpAny _ _ (assign (.Name y py) X.env (.ref L)) _ _ _
  refine wpAny_assign_Name (store_ok2 (v := V.ref L) I' nod hy (.inl hyl) rfl (fun s2 I2 ⟨a, sb, ha⟩ => ?_) (.inr hyl))
  obtain ⟨f0, f1, f2, f3, f4, f5⟩ := f
  have haC : C ≠ a := by
    rcases ha with z | z
    · rw [z]; exact f1
    · exact fun e => f4 y a z e.symm
  refine ⟨m, hn.sameBut sb haC, fun h3 sb3 => ?_⟩
  exact ⟨_, H', I2.turned (t' := s2.toks) (fun b o hb e => (sb3.2 b hb).trans e) f0 f1 f3 f4 f5, q⟩
end
end CD

namespace CD
open PySem PySem.Spec PyProof.Rows L2
/-! ### dict(xs) of a list of pairs whose keys are tuples -/
def PrT (H : Hp) (x : V) (kv : List L2.Key × V) : Prop := ∃ p b, x = V.ref p ∧ H p = some (.tup [.ref b, kv.2]) ∧ H b = some (.tup (kv.1.map kV))
section
variable {X : Cx}
def rDictT (K : PySem.W.Frag) : List V → Hp → VK → Prop := fun xs H Q => ∃ (a : Addr) (ps : List V) (kvs : List (List L2.Key × V)), xs = [.ref a] ∧ SqL K H a ps ∧ Paired (PrT H) ps kvs ∧ ∀ d, H d = none → Q (.ref d) (upd H d (.dT (mergeT [] kvs)))
theorem pairs_ofT {pins : List (Addr × Obj)} {σ : L2.St} {H : Hp} {s : Shared} (I : Inv X pins σ H s) : ∀ {ps : List V} {us : List Value} {kvs : List (List L2.Key × V)}, Paired (PrT H) ps kvs → Vals ps us →
    ∃ ys : List (List L2.Key × Addr × Value), KT H kvs ys ∧ ys.length = us.length ∧ ∀ (j : Nat) (y : List L2.Key × Addr × Value), ys[j]? = some y → ∃ p, us[j]? = some (Value.ref p) ∧ s.heap.IsTuple p #[.ref y.2.1, y.2.2]
  | _, _, _, .nil, r => by
    cases r
    exact ⟨[], .nil, rfl, fun j q e => by simp at e⟩
  | _, _, _, .cons (a := x) (b := kv) h t, r => by
    obtain ⟨p, b, rfl, hp, hb⟩ := h
    cases r with
    | cons r1 r2 =>
      cases r1
      obtain ⟨ys, rk, hl, hh⟩ := pairs_ofT I t r2
      obtain ⟨its, rv, ht, _⟩ := I.tuple (SqT.of hp)
      obtain ⟨u, y, ei, ru, ry⟩ := vals2 rv
      subst ei
      cases ru
      refine ⟨(kv.1, b, y) :: ys, .cons ⟨rfl, hb, ry⟩ rk, by rw [List.length_cons, List.length_cons, hl], fun j q e => ?_⟩
      cases j with
      | zero =>
        obtain rfl := Option.some.inj e
        obtain ⟨o, ho, hc, n, hd⟩ := ht
        exact ⟨p, rfl, o, ho, hc, n, hd⟩
      | succ j =>
        obtain ⟨p2, e1, e2⟩ := hh j q (by simpa using e)
        exact ⟨p2, by simpa using e1, e2⟩
theorem call_dictT (hcalm : X.calm = true) (hu : X.A.units + 65 < cLine) : CallR X (.type "dict") (rDictT X.K) := by
  intro pins s σ H xs us Q I r q
  obtain ⟨a, ps, kvs, rfl, hq, hp, q⟩ := q
  obtain ⟨u, rfl, rx⟩ := vals1 r
  cases rx
  obtain ⟨its, rv, pl, hz⟩ := I.list hq
  obtain ⟨ys, rk, hl, hpr⟩ := pairs_ofT I hp rv
  obtain ⟨o, n, ho, hc, hd, hdat⟩ := pl
  let Ts : Nat → Addr := fun j => match its[j]? with
    | some (.ref p) => p
    | _ => 0
  let prs : List (Value × Value) := ys.map fun y => (Value.ref y.2.1, y.2.2)
  have lp : prs.length = its.length := by simp [prs, hl]
  have hTs : ∀ {j : Nat} {p : Addr}, its[j]? = some (.ref p) → Ts j = p := fun {j p} e => by
    show (match its[j]? with | some (.ref p) => p | _ => 0) = p
    rw [e]
  have P := PairArg.list (prog := X.prog) (w := X.w) a its.toArray Ts prs
  have ok : PlainSeq "list" s.heap a its.toArray ∧ PairItems s.heap its.toArray Ts prs := by
    refine ⟨⟨o, n, ho, hc, hd, hdat⟩, by rw [List.size_toArray, lp], fun j k v e => ?_⟩
    have e2 : (ys.map fun y => (Value.ref y.2.1, y.2.2))[j]? = some (k, v) := e
    rw [List.getElem?_map] at e2
    obtain ⟨y, hy, ey⟩ := Option.map_eq_some_iff.mp e2
    obtain ⟨p, h1, h2⟩ := hpr j y hy
    obtain ⟨rfl, rfl⟩ := Prod.mk.inj ey
    rw [hTs h1]
    exact ⟨by simpa using h1, .inl h2⟩
  have hroom : (tupleKind (mixKind X.prog X.w)).room X.A.in1.in1 := by
    show X.A.units + 1 + 1 < cLine
    omega
  have keyed : ∀ x ∈ ys, (tupleKind (mixKind X.prog X.w)).is s.heap x.1 x.2.1 := by
    clear hpr P ok hl lp q hp
    intro x hx
    obtain ⟨i, hi⟩ := List.mem_iff_getElem?.mp hx
    induction rk generalizing i with
    | nil => cases hx
    | cons h t ih =>
      rcases List.mem_cons.mp hx with rfl | hx2
      · obtain ⟨h1, h2, _⟩ := h
        exact key_of I.hok (by rw [← h1]; exact h2)
      · obtain ⟨i2, hi2⟩ := List.mem_iff_getElem?.mp hx2
        exact ih hx2 i2 hi2
  refine call_dict_pairsH (knd := tupleKind (mixKind X.prog X.w)) (ps := ys) P (I.ok.hd hcalm) hroom ok ⟨by simp [prs], fun i key v e => ?_⟩ (fun h' hk x hx => ?_) (by rw [lp, ← rv.length]; exact hz) fun h' tk dd k => ?_
  · have e2 : (ys.map fun y => (Value.ref y.2.1, y.2.2))[i]? = some (key, v) := e
    rw [List.getElem?_map] at e2
    obtain ⟨⟨y1, y2, y3⟩, hy, ey⟩ := Option.map_eq_some_iff.mp e2
    obtain ⟨rfl, rfl⟩ := Prod.mk.inj ey
    exact ⟨y1, y2, hy, rfl⟩
  · exact tupleKind_stays.stays (fun b o vs n e _ => hk b o (Nat.ne_of_lt (Heap.lt_size e)) (by simp) e) (keyed x hx)
  · have hm : (s.heap.objs.size == sysModules) = false := beq_eq_false_iff_ne.mpr (Nat.ne_of_gt I.big)
    have fr : H s.heap.objs.size = none := I.hok.fresh (Nat.le_refl _)
    have hlen : (mergeT [] kvs).length ≤ sizeLine := by
      have h1 := mergeT_len [] kvs
      have h2 : kvs.length = ys.length := Paired.length rk
      rw [List.length_nil, h2, hl] at h1
      have : its.length ≤ sizeLine := by rw [← rv.length]; exact hz
      omega
    obtain ⟨o2, es, ep, hq2, h2, h3, h4, _, h5⟩ := dd
    refine ⟨.ref s.heap.objs.size, upd H s.heap.objs.size (.dT (mergeT [] kvs)), I.laid (t' := tk) (fun b o e => k b o (by simp) e) (Nat.le_refl _) (show ObjOk X.prog X.w _ _ _ (.dT (mergeT [] kvs)) from ⟨hlen, hm, storedAllH [] ys, (KT.merge rk .nil).keeps (fun c zs ec => by rw [upd_ne (ne_of_none ec fr)]; exact ec), o2, es, ep, hq2, h2, h3, h4, h5⟩), rfl, q _ fr⟩
end
end CD

-- dictcomps
namespace CD
open PySem PySem.Spec PyProof.Rows L2
/-! ### d != {} -/
section
variable {prog : Program} {w : World} {A : Around} {E : Value → Shared → Prop} {s : Shared}
theorem same_empty {nm : String} {a b : Addr} {es es2 : Array DictEntry} {ep ep2 : Nat} {Q : Bool → Shared → Prop} (ha : (a == sysModules) = false) (hb : (b == sysModules) = false)
    (da : s.heap.DictRaw a es ep) (db : s.heap.DictRaw b es2 ep2) (h0 : es2.size = 0) (h : Q (es.size == 0) s) : wpAny (model prog w) A (Builtin.Dict.samePairs nm a b) Q E s := by
  obtain ⟨oa, hoa, _, hda⟩ := da
  obtain ⟨ob, hob, _, hdb⟩ := db
  unfold Builtin.Dict.samePairs Builtin.Dict.showsAll
  rw [if_neg (show ¬ (a == sysModules) = true by rw [ha]; exact Bool.false_ne_true), if_neg (show ¬ (b == sysModules) = true by rw [hb]; exact Bool.false_ne_true)]
  refine wpAny_bind (wpAny_pure (wpAny_bind (wpAny_pure ?_)))
  refine wpAny_bind (wpAny_dictEntries hoa hda ?_)
  dsimp only
  refine wpAny_bind (wpAny_dictEntries hob hdb ?_)
  by_cases hsz : es.size = 0
  case neg =>
    rw [if_pos (by simpa [h0] using hsz)]
    have hbf : (es.size == 0) = false := by simpa using hsz
    rw [hbf] at h
    exact wpAny_bind (wpAny_rule (wpAny_pure h))
  case pos =>
    rw [hsz] at h
    rw [if_neg (by rw [hsz, h0]; simp)]
    refine wpAny_bind (wpAny_dictEpoch hoa hda ?_)
    refine wpAny_bind ?_
    rw [Std.Legacy.Range.forIn_eq_forIn_range']
    simp only [Std.Legacy.Range.size, Nat.sub_zero, Nat.add_sub_cancel, Nat.div_one]
    refine wpAny_forIn_list _ (fun rest q s' => s' = s ∧ q = (none, ()) ∧ rest = []) _ ?_ ?_ _ _ ⟨rfl, rfl, by rw [hsz]; rfl⟩
    · rintro x rest q s' ⟨_, _, hr⟩
      cases hr
    · rintro q s' ⟨rfl, rfl, _⟩
      exact wpAny_pure h
end
section
variable {X : Cx}
def rNeE : R2 := fun x y H Q => ∃ (a b : Addr) (kvs : List (List L2.Key × V)), x = .ref a ∧ y = .ref b ∧ H a = some (.dT kvs) ∧ H b = some (.dK []) ∧ Q (.bl (!decide (kvs = []))) H
theorem op_neE (hu : X.A.units + 65 < cLine) : OpR X (compareOp .NotEq) rNeE := by
  intro pins s σ H x y v u Q I rx ry h
  obtain ⟨a, b, kvs, rfl, rfl, ea, eb, q⟩ := h
  obtain rfl : v = Value.ref a := rx
  obtain rfl : u = Value.ref b := ry
  obtain ⟨z, hd, xs, rel, o, es, ep, ho, hx, hdat, hes, hxs, hnod⟩ := dt_of I.hok ea
  have raw : s.heap.DictRaw a es ep := ⟨o, ho, hx, hdat⟩
  obtain ⟨_, yb, vb, rb, db⟩ := (show ObjOk X.prog X.w H s.heap b (.dK []) from I.hok b _ eb)
  have lb : vb = [] := by
    have := rb.length
    cases vb with
    | nil => rfl
    | cons _ _ => cases this
  subst lb
  obtain ⟨ob, es2, ep2, hob, hcb, hdb, hkb, hpb, _⟩ := id db
  have raw2 : s.heap.DictRaw b es2 ep2 := ⟨ob, hob, hcb, hdb⟩
  have h0 : es2.size = 0 := by
    have := hpb.length
    rw [List.length_nil] at this
    rw [← Array.length_toList]
    exact this
  have l1 : es.size = xs.length := by rw [← Array.length_toList, hes, List.length_map]
  have l2 : kvs.length = xs.length := Paired.length rel
  refine wpAny_richCompare_same_room (op := .NotEq) raw.typeIs raw2.typeIs PySem.F.slot_dict_ne (wpAny_call_entry PySem.F.slot_dict_ne raw.typeIs PySem.F.entry_dict_ne ?_ (PySem.F.args_dict_ne_2 _ _)) (by omega)
  show wpAny _ _ (Builtin.Dict.dictSlotArgs "__ne__" ⟨[.ref a, .ref b], []⟩ >>= _) _ _ s
  refine wpAny_bind ?_
  unfold Builtin.Dict.dictSlotArgs
  refine wpAny_bind (wpAny_notOrdered_dict raw.typeIs ?_)
  show wpAny _ _ (pure (Value.ref a, Value.ref b)) _ _ s
  refine wpAny_pure ?_
  refine wpAny_bind (wpAny_isInstance (T := "dict") raw2.typeIs PySem.F.sub_dict_dict ?_)
  simp only [Bool.not_true, Bool.false_eq_true, if_false]
  refine wpAny_bind (wpAny_pure (wpAny_bind (wpAny_pure ?_)))
  refine wpAny_bind (same_empty hd yb raw raw2 h0 ?_)
  refine wpAny_pure ⟨_, rfl, ?_, ?_⟩
  · exact fun x => nomatch x
  · have e : (es.size == 0) = decide (kvs = []) := by
      rw [l1, ← l2]
      cases kvs <;> simp
    rw [e]
    exact fin_bl I q (by simp)
end
end CD

-- dictcomps
namespace CD
open PySem PySem.Spec PyProof.Rows L2
/-! ### for k, v in d.items(): d with tuples for keys -/
section
variable {X : Cx} {pins : List (Addr × Obj)} {σ : L2.St} {H : Hp} {s : Shared} {d : Addr} {o : Obj}
theorem frzT2 {kvs : List (List L2.Key × V)} (I : Inv X pins σ H s) (h : H d = some (.frz o (.dT kvs))) :
    (d == sysModules) = false ∧ s.heap.get? d = some o ∧ o.ExactDict ∧ ∃ (es : Array DictEntry) (ep : Nat), o.data = .dict es ep ∧ es.size = kvs.length ∧
      ∀ (i : Nat) (k : List L2.Key) (v : V), kvs[i]? = some (k, v) → ∃ (en : DictEntry) (q : Addr), es[i]? = some en ∧ en.key = .ref q ∧ H q = some (.tup (k.map kV)) ∧ RelV v en.val := by
  obtain ⟨hd, z, hs, xs, pr, o', es, ep, ho, hx, hdt, he, _⟩ := I.hok d _ h
  rw [hd] at ho
  cases ho
  refine ⟨hs, hd, hx, es, ep, hdt, ?_, fun i k v e => ?_⟩
  · have l1 : es.size = xs.length := size_of_entries he
    have l2 : kvs.length = xs.length := Paired.length pr
    omega
  · obtain ⟨b, hb, e1, e2, e3⟩ := paired_get pr e
    have q := entry_at he i
    rw [hb] at q
    exact ⟨_, b.2.1, q, rfl, e2, e3⟩
end
def Itit (d : Addr) (o : Obj) (kvs : List (List L2.Key × V)) : It :=
  ⟨fun i H => H d = some (.frz o (.dT kvs)) ∧ i < kvs.length, fun i H x H' => ∃ (T q : Addr) (k : List L2.Key) (v : V), kvs[i]? = some (k, v) ∧ x = .ref T ∧ H T = none ∧ H q = some (.tup (k.map kV)) ∧ H' = upd H T (.tup [.ref q, v]), fun i H => H d = some (.frz o (.dT kvs)) ∧ kvs.length ≤ i⟩
theorem walk_itemsT {d : Addr} {o : Obj} {kvs : List (List L2.Key × V)} : Walk (Itit d o kvs) kvs.length (fun H => H d = some (.frz o (.dT kvs)))
    (fun i H x H' => ∃ (T q : Addr) (k : List L2.Key) (v : V), kvs[i]? = some (k, v) ∧ x = .ref T ∧ H T = none ∧ H q = some (.tup (k.map kV)) ∧ H' = upd H T (.tup [.ref q, v])) :=
  ⟨fun _ _ hi q => ⟨q, hi⟩, fun _ q => ⟨q, Nat.le_refl _⟩, fun _ _ _ _ _ _ y => y⟩
theorem turn_itemsT {P : Program} {w : World} {K : PySem.W.Frag} {d : Addr} {o : Obj} {es : Array DictEntry} {ep : Nat} {kvs : List (List L2.Key × V)} {elts : List Expr} {kk : Nat} {tpos : Pos} (it : Addr) (hod : o.data = .dict es ep) :
    Turn P w K (.Tuple elts kk tpos) (Itit d o kvs) [it] it (fun i h => ∃ ok ov, IsItemIter h it d i kvs.length ep ok ov) where
  mem := by simp
  obj := fun i h st b hb => by
    have e : b = it := by simpa using hb
    subst e
    obtain ⟨ok, ov, e⟩ := st
    exact ⟨_, e, fun v z => nomatch z⟩
  keep := fun i h h' st k => let ⟨ok, ov, e⟩ := st; ⟨ok, ov, k it (by simp) _ e⟩
  item := by
    intro X hP hw hK hc i pins s σ H E I hf st hg
    subst hP hw hK
    obtain ⟨hd, hi⟩ := hg
    obtain ⟨hs, hgd, hx, es', ep', hdt, hsz, ent⟩ := frzT2 I hd
    obtain ⟨rfl, rfl⟩ := dict_ep hdt hod
    obtain ⟨⟨k, v⟩, hkv⟩ : ∃ p, kvs[i]? = some p := ⟨kvs[i], List.getElem?_eq_getElem hi⟩
    obtain ⟨en, q, hen, hkey, hq, rv⟩ := ent i k v hkv
    obtain ⟨ok, ov, he⟩ := st
    rw [← hsz] at he
    have hlt : it < s.heap.objs.size := Heap.lt_size he
    have raw : s.heap.DictRaw d es ep := ⟨o, hgd, hx, hod⟩
    have hi2 : i < es.size := by omega
    have een : es[i] = en := Option.some.inj ((Array.getElem?_eq_getElem hi2).symm.trans hen)
    refine wpAny_pyNext_items_item_raw he raw hi2 fun h' ho hT hz hk => ?_
    rw [een, hkey] at ho hT
    refine ⟨_, rfl, wpAny_letOwnedTupleGo_items (s := { s with heap := h' }) ho fun h'' he' sb => ?_⟩
    have hT2 : h''.get? s.heap.objs.size = some { cls := .type "tuple", data := .seq #[.ref q, en.val] } := (sb.2 _ (Nat.ne_of_gt hlt)).trans hT
    have new : ObjOk X.prog X.w (upd H s.heap.objs.size (.tup [.ref q, v])) h'' s.heap.objs.size (.tup [.ref q, v]) :=
      ⟨by show 2 ≤ sizeLine; decide, [.ref q, en.val], .cons rfl (.cons rv .nil), ⟨_, hT2, rfl, _, rfl⟩⟩
    have I1 : Inv X pins σ (upd H s.heap.objs.size (.tup [.ref q, v])) { s with heap := h'' } :=
      I.turnedNew (t' := s.toks) (ch := [it]) (fun b ob hb e => (sb.2 b (by simpa using hb)).trans (hk b ob (by simpa using hb) e)) hf (Nat.le_refl _) new
    refine ⟨.ref s.heap.objs.size, _, I1, rfl, ⟨_, q, k, v, hkv, rfl, I.hok.fresh (Nat.le_refl _), hq, rfl⟩, ⟨.ref q, en.val, ?_⟩, fun b hb => ?_⟩
    · rw [← hsz]; exact he'
    · have e : b = it := by simpa using hb
      rw [e, upd_ne (Nat.ne_of_lt hlt)]
      exact (hf it (by simp)).1
  done := by
    intro X hP hw hK hc i pins s σ H E I hf st hg
    subst hP hw hK
    obtain ⟨hd, hi⟩ := hg
    obtain ⟨f0, f1, f2, f3, f4, f5⟩ := hf it (by simp)
    obtain ⟨hs, hgd, hx, es', ep', hdt, hsz, ent⟩ := frzT2 I hd
    obtain ⟨rfl, rfl⟩ := dict_ep hdt hod
    obtain ⟨ok, ov, he⟩ := st
    rw [← hsz] at he
    have raw : s.heap.DictRaw d es ep := ⟨o, hgd, hx, hod⟩
    exact wpAny_pyNext_items_end_raw (I.ok.hd hc) he raw (by omega) fun h' eb => ⟨rfl, I.turned (t' := s.toks) (fun b ob hb e => eb b ob hb e) f0 f1 f3 f4 f5⟩
  self := fun A i s Q E st h => let ⟨_, _, e⟩ := st; PySem.W.kcp_self e h
def iItemsT (td : TE) : TI := fun σ H R => td σ H fun x H1 => ∃ d o kvs, x = .ref d ∧ H1 d = some (.frz o (.dT kvs)) ∧ R (Itit d o kvs) H1
theorem pi_itemsT {X : Cx} {e : Expr} {td : TE} {apos cpos tpos : Pos} {elts : List Expr} {kk : Nat} (he : PE X e td) (hbase : attributeBase e "items" X.env (eval e X.env) = eval e X.env := by rfl) (hline : (apos.endLine == cpos.line) = true := by rfl) :
    PI X (.Tuple elts kk tpos) (.Call (.Attribute e "items" apos) [] [] cpos) (iItemsT td) := by
  refine ⟨fun pins s σ H R I h => ?_⟩
  refine wpAny_Call_method (T := "dict") (id := "dict.items") hbase rfl hline F.plainAttrs_dict F.slot_dict_items F.type_dict_items (thn (he.run pins s σ H _ I h) fun u s1 ⟨x, H1, I1, rx, d, o, kvs, ex, hd, q⟩ => ?_)
  subst ex
  obtain rfl : u = Value.ref d := rx
  obtain ⟨hs, hgd, hx, es, ep, hdt, hsz, ent⟩ := frzT2 I1 hd
  have raw : s1.heap.DictRaw d es ep := ⟨o, hgd, hx, hdt⟩
  refine ⟨raw.typeIs, ?_, ?_⟩
  · intro a ea
    cases ea
    exact ⟨o, hgd, hx.2.1⟩
  have I2 : Inv X pins σ H1 { s1 with heap := s1.heap.push { cls := .type "dict_items", data := .fields #[.ref d] } } := I1.kept (t' := s1.toks) fun b ob q => Heap.get?_push_of_some _ q
  have fin : wpAny (model X.prog X.w) X.A (pyIter (.ref s1.heap.objs.size)) (PIE X pins σ (.Tuple elts kk tpos) R) X.xe { s1 with heap := s1.heap.push { cls := .type "dict_items", data := .fields #[.ref d] } } := by
    refine wpAny_pyIter_items_raw (d := d) ⟨_, Heap.get?_push_size _ rfl, rfl, rfl⟩ ⟨o, Heap.get?_push_of_some _ hgd, hx, hdt⟩ (pi_one (tk := s1.toks) I2 _ (turn_itemsT _ hdt) ⟨.none, .none, ?_⟩ q)
    rw [← hsz]
    exact Heap.get?_push_size _ rfl
  show wpAny _ _ (callWith cpos (.builtin "dict.items") [.ref d] [] []) _ X.xe s1
  exact method_meetsIn F.slot_dict_items F.entry_dict_items rfl (PySem.evalArgs_none ⟨rfl, raw.typeIs, F.args_dict_items_1 _, _, meets_dict_items_raw d hs, ⟨es, ep, raw⟩, fin⟩)
end CD

/-! ### promises for callers that print nothing yet, and repr -/
namespace CG
open PySem PySem.Spec PyProof.Rows L2
/-- a promise that is kept where nothing is being printed -/
structure FnOkG (P : Program) (w : World) (K : PySem.W.Frag) (mg : Str → Option Value) (base : Heap) (k : Nat) (f : Addr) (fd : FuncData) (ps : List Str) (sp : Sp) : Prop where
  size : ∀ vs H Q E, sp vs H Q E → vs.length = ps.length
  go : ∀ (A : Around) (fr : List Env) (s : Shared) (H : Hp) (as : Args) (us : List Value) (vs : List V) (Q : VK) (E : XK), A.guards = some [] → Room k A → Env0 P w K mg base A fr s H → BindsTo s fd as (ps.zip us) → Vals vs us → sp vs H Q E →
    codeAny (model P w) A (.call (.ref f) as) (CR CX0 fr P w H s Q E) s
theorem FnOkG.of {P : Program} {w : World} {K : PySem.W.Frag} {mg : Str → Option Value} {base : Heap} {k : Nat} {f : Addr} {fd : FuncData} {ps : List Str} {sp : Sp} (F : FnOk P w K mg base CX0 k f fd ps sp) : FnOkG P w K mg base k f fd ps sp :=
  ⟨F.len, fun A fr s H as us vs Q E _ => F.run A fr s H as us vs Q E⟩
section
variable {P : Program} {w : World} {K : PySem.W.Frag} {mg : Str → Option Value} {base : Heap}
/-- a def by its body, where nothing is being printed -/
theorem okG {x qual : Str} {st : Stmt} {f : Addr} {fd : FuncData} {N ps : List Str} {k : Nat} {sp : Sp} (F : Fun K x qual st f fd) (S : FnScope N ps (defScope st)) (len : ∀ vs H Q E, sp vs H Q E → vs.length = ps.length)
    (body : ∀ (cdv : Value) (A : Around) (fr : List Env) (s : Shared) (H : Hp) (vs : List V) (Q : VK) (E : XK), A.guards = some [] → Room k (A.deeper (envOfC qual (defScope st) s.heap.objs.size f cdv)) → sp vs H Q E →
      ∃ t, PSs (cxOf CX0 P w K mg base N qual (defScope st) f cdv A fr s H E).nox (defBody st) t ∧ t { nx := fun _ H' => Q .non H', rt := Q } (start N vs) H) : FnOkG P w K mg base (k + 1) f fd ps sp := by
  obtain ⟨o1, o2, d1, d2, d3, o3, cd, ct, o4, rfl, look, code⟩ := F.ex
  refine ⟨len, fun A fr s H as us vs Q E gd room en bind rel want => ?_⟩
  have kin : K.In s.heap := en.mod.kin.keeps fun b o e => (en.bs b o e).1
  have nolim : s.heap.NoLimit := en.mod.nolimit.keeps fun b o e => (en.bs b o e).1
  have kinds : ∀ y ∈ ps.zip us, (defScope st).names.lookup y.1 = some .local ∨ ((defScope st).names.lookup y.1 = some .cell ∧ ((cellsFrom (s.heap.objs.size + 1) (defScope st).names []).lookup y.1).isSome = true) := fun ⟨n, v⟩ hy =>
    (S.par n (List.of_mem_zip hy).1).imp id fun q => ⟨q, PySem.W.cellsFrom_some _ _ _ (.inl q)⟩
  refine codeAny_call_function room.depth (kin _ _ look) rfl S.co S.gen rfl (PySem.W.codeRec_of kin code) (bind _ _ _ _ ?_)
  refine wpAny_newFunctionEnv_cells S.kind kinds fun env isEnv s1 entry => ?_
  subst isEnv
  refine ⟨nolim.keeps entry.toInCall.keep, codeAny_func ?_⟩
  obtain ⟨t, rule, reading⟩ := body cd A fr s H vs Q E gd (room.deeper _) want
  have start1 : Inv (cxOf CX0 P w K mg base N qual (defScope st) f cd A fr s H E) [] (start N vs) H s1 := inv_start S room.hd en (len _ _ _ _ want) rel entry
  refine wpAny_mono (rule.nox.run [] s1 (start N vs) H _ start1 reading) (fun fl s' out => ?_) fun e s' out => out
  have close : ∀ {τ : L2.St} {H' : Hp} {v : V} {u : Value}, Inv (cxOf CX0 P w K mg base N qual (defScope st) f cd A fr s H E) [] τ H' s' → RelV v u → Q v H' → CE fr P w H s Q u s' :=
    fun {τ H' v u} J rv q => ⟨v, H', J.os, J.bare, J.base, J.hok, rv, q⟩
  match fl, out with
  | .ret u, ⟨_, _, _, J, rv, q⟩ => exact close J rv q
  | .next, ⟨_, _, J, q⟩ => exact close (v := V.non) (u := Value.none) J rfl q
  | .brk, ⟨_, _, _, q⟩ => exact q.elim
  | .cont, ⟨_, _, _, q⟩ => exact q.elim
end
section
variable {X : Cx} {k : Nat} {f : Addr} {fd : FuncData} {ps : List Str} {sp : Sp} {dvs : List V} {ds : List Value} {E : XK} {x : Str} {p pos : Pos} {e : Expr} {es : List Expr} {t : TA}
theorem goG {pins : List (Addr × Obj)} {σ : L2.St} {H : Hp} {s : Shared} {Q : VK} {us : List Value} {vs : List V} (F : FnOkG X.prog X.w X.K X.mg X.base k f fd ps sp) (gd : X.A.guards = some []) (room : Room k X.A) (bind : Binds X.K fd ps ds) (hd : Vals dvs ds) (pass : Passes CX0 X E)
    (I : Inv X pins σ H s) (rel : Vals vs us) (want : sp (vs ++ dvs) H Q E) : wpAny (model X.prog X.w) X.A (call (.ref f) us) (EP X pins σ Q) X.xe s := by
  have both : Vals (vs ++ dvs) (us ++ ds) := rel.append hd
  have size : (us ++ ds).length = ps.length := both.length.symm.trans (F.size _ _ _ _ want)
  refine wpAny_call (codeAny_mono (F.go X.A X.stack s H ⟨us, []⟩ (us ++ ds) (vs ++ dvs) Q E gd room I.env0 (bind s us I.kIn size) both want) fun out s' q => ?_)
  match out, q with
  | .error err, q => exact pass pins σ H s err s' I q
  | .ok (.ret u), q => exact I.after q
/-- the call of a def that wants nothing to be printed -/
theorem pe_callG (F : FnOkG X.prog X.w X.K X.mg X.base k f fd ps sp) (gd : X.A.guards = some []) (room : Room k X.A) (hg : Gl X x) (hm : X.mg x = some (.ref f)) (hk : PySem.W.keepIn X.K (.ref f) = true) (bind : Binds X.K fd ps ds) (hd : Vals dvs ds) (pass : Passes CX0 X E)
    (args : PA X (e :: es) t) (hdb : (x == ("__debug__" : Str)) = false := by decide) (he : starEach (e :: es) X.env = (false, eval e X.env) :: starEach es X.env := by rfl) (hpl : (backTo pos (starEach es X.env)).any (·.1) = false := by rfl) :
    PE X (.Call (.Name x p) (e :: es) [] pos) (tCall sp dvs E t) :=
  ⟨fun pins s σ H Q I h => wpAny_Call_Name_kw (ld_glob I hg hm (PySem.W.callWith_K (h₀ := X.base) I.ok.mod.kin hk (thn (args.run pos pins s σ H _ I h) fun us s1 ⟨vs, H1, I1, r, q⟩ => ⟨I1.kIn, goG F gd room bind hd pass I1 r q⟩) he hpl) hdb)⟩
/-- repr(x) of data that are known -/
def rRepr (K : PySem.W.Frag) : List V → Hp → VK → Prop := fun vs H Q => ∃ (a : Addr) (d : PyData), vs = [V.ref a] ∧ Dp K H (.ref a) d ∧ d.showable = true ∧ d.hasDict = false ∧ d.shown.length ≤ sizeLine ∧ d.depth ≤ 60 ∧ Q (.str d.shown) H
theorem cr_repr (gd : X.A.guards = some []) (hu : X.A.units + 65 < cLine) : CallR X (.builtin "repr") (rRepr X.K) := by
  intro pins s σ H vs us Q I r h
  obtain ⟨a, d, rfl, hd, sh, nd, lz, dp, q⟩ := h
  rw [Vals.ref1 r]
  obtain ⟨as, rd⟩ := Dp.reads I _ (.ref a) _ hd rfl
  refine repr_of_reads' rd sh (fun z => absurd (nd.symm.trans z) (by decide)) gd (by omega) (fun _ _ e => e) (fun h' u tk hk => ?_) lz
  exact ⟨.str d.shown, H, I.kept (t' := tk) hk, ⟨_, rfl⟩, q⟩
end
/-- the law at its script, from a promise of that kind -/
theorem law_callG {P : Program} {w : World} {K : PySem.W.Frag} {mg mb : Str → Option Value} {k : Nat} {fa a : Addr} {fd : FuncData} {x : Str} {sp : Sp} {s₁ : Shared} {us : List Value} {ms : List Int}
    (inK : K.In s₁.heap) (g1 : s₁.heap.Ns mainGlobals mg) (g2 : s₁.heap.Ns builtinsNs mb) (g3 : ∀ x : Str, x ≠ "__name__" → mb x = bootBuiltins x) (g4 : s₁.heap.NoLimit) (g5 : s₁.gens = #[])
    (at_a : s₁.heap.get? a = some { cls := .type "list", data := .seq us.toArray }) (are : IntsAre us ms) (short : ms.length ≤ sizeLine) (room : Room k callerA)
    (F : ∀ base : Heap, K.In base → base.Ns mainGlobals mg → FnOkG P w K mg base k fa fd [x] sp) (bind : ∀ (s : Shared) (u : Value), BindsTo s fd ⟨[u], []⟩ [(x, u)])
    (want : ∀ H : Hp, Only H → SqL K H a (ms.map V.int) → sp [.ref a] H (fun v _ => v = .bl true) fun _ _ _ => False) :
    codeAny (model P w) callerA (.call (.ref fa) ⟨[.ref a], []⟩) (fun r s' => r = .ok (.ret (.bool true)) ∧ OldK s₁.heap s'.heap ∧ s'.os = s₁.os ∧ AllBare s'.gens) s₁ := by
  have vals := vals_ints are
  have many := are.length
  have main : ∀ H : Hp, Only H → SqL K H a (ms.map V.int) → HOk P w H s₁.heap → (∀ b, H b ≠ none → b = a) → (H a ≠ none → K.lookup a = none) →
      codeAny (model P w) callerA (.call (.ref fa) ⟨[.ref a], []⟩) (fun r s' => r = .ok (.ret (.bool true)) ∧ OldK s₁.heap s'.heap ∧ s'.os = s₁.os ∧ AllBare s'.gens) s₁ := by
    intro H only seq hok just out
    have hid : ∀ {b : Addr} {o : Obj} {es : Array DictEntry} {n : Nat}, s₁.heap.get? b = some o → o.data = .dict es n → H b = none := fun {b o es n} e d => Classical.byContradiction fun z => by
      rw [just b z, at_a] at e
      obtain rfl := Option.some.inj e
      exact absurd (show Data.seq us.toArray _ = Data.dict es n from d) (fun z => nomatch z)
    have names : ∀ {b : Addr} {m : Str → Option Value}, s₁.heap.Ns b m → (hidT s₁.heap H).Ns b m := fun {b m} ⟨o, es, n, e, d, r⟩ => ⟨o, es, n, hidT_get e (hid e d), d, r⟩
    have inB : K.In (hidT s₁.heap H) := fun b o e => hidT_get (inK b o e) (Classical.byContradiction fun z => by
      have ba := just b z
      rw [ba] at z e
      rw [out z] at e
      exact absurd e (fun z => nomatch z))
    have known : Mod K mg (hidT s₁.heap H) := ⟨inB, names g1, ⟨mb, names g2, g3⟩, g4.elim fun mc z => ⟨mc, names z.1, z.2⟩⟩
    have entry : Env0 P w K mg (hidT s₁.heap H) callerA [] s₁ H := ⟨rfl, known, fun b o e => of_hidT e, Nat.le_of_eq (hidT_size _ _), trivial, fun b z => (List.not_mem_nil z).elim, hok, .of_eq g5⟩
    refine codeAny_mono ((F _ inB (names g1)).go callerA [] s₁ H ⟨[.ref a], []⟩ [.ref a] [.ref a] _ _ rfl room entry (bind s₁ (.ref a)) (.cons rfl .nil) (want H only seq)) fun r s' h => ?_
    match r, h with
    | .ok (.ret u), ⟨v, H', os, bare, un, hok', rel, (q : v = .bl true)⟩ =>
      subst q
      obtain rfl : u = Value.bool true := rel
      refine ⟨rfl, OldK.of_keep fun b o e => ?_, os, bare⟩
      rcases only b with z | ⟨ob, xs, z⟩
      · exact un.keep b o e z (fun m => (List.not_mem_nil m).elim) (by simp)
      · have e1 := (hok b _ z).1
        have e2 := (hok' b _ (un.frzs b ob _ z)).1
        rw [e] at e1
        rw [Option.some.inj e1]
        exact e2
  cases look : K.lookup a with
  | some o =>
    obtain rfl := Option.some.inj (at_a.symm.trans (inK a o look))
    exact main (fun _ => none) (fun _ => .inl rfl) (.inr ⟨_, us.toArray, _, look, rfl, rfl, rfl, by simpa [many] using short, by simpa using vals⟩) (fun b u z => (nomatch (show (none : Option HO) = some u from z))) (fun b z => (z rfl).elim) fun z => (z rfl).elim
  | none =>
    let O : Obj := { cls := .type "list", data := .seq us.toArray }
    let G : Hp := fun b => if b = a then some (.frz O (.lst (ms.map V.int))) else none
    have gA : G a = some (.frz O (.lst (ms.map V.int))) := if_pos rfl
    have gN : ∀ b, b ≠ a → G b = none := fun b n => if_neg n
    refine main G (fun b => ?_) (.inl (.inr ⟨O, gA⟩)) (fun b u z => ?_) (fun b z => Classical.byContradiction fun n => z (gN b n)) fun _ => look
    · rcases Decidable.em (b = a) with rfl | n
      · exact .inr ⟨_, _, gA⟩
      · exact .inl (gN b n)
    · rcases Decidable.em (b = a) with rfl | n
      · obtain rfl := Option.some.inj (gA.symm.trans z)
        exact ⟨at_a, by rw [List.length_map]; exact short, us, _, vals, at_a⟩
      · exact absurd (gN b n) (by rw [z]; exact fun e => nomatch e)
/-- a law's end, from a promise of that kind -/
theorem walk_ofG {l : PySem.W.OpenLaw} {n k : Nat} {q : Program} {loose : List Str} {XP : (Str → Option Value) → Heap → Prop} {YP : World → Heap → Prop} {d : DefRec} {x : Str}
    (most : l.most = some n) (small : n ≤ sizeLine) (plain : d.params.defaults = []) (room : Room k callerA)
    (F : ∀ (w : World) (mg : Str → Option Value) (fa : Addr) (h : Heap), YP w h → h.Ns mainGlobals mg → mg d.name = some (.ref fa) →
      ∃ (K : PySem.W.Frag) (fd : FuncData) (sp : Sp), K.In h ∧ (∀ (s : Shared) (u : Value), BindsTo s fd ⟨[u], []⟩ [(x, u)]) ∧
        (∀ (H : Hp) (a : Addr) (ms : List Int), ms.length ≤ n → Only H → SqL K H a (ms.map V.int) → sp [.ref a] H (fun v _ => v = .bl true) fun _ _ _ => False) ∧
        ∀ base : Heap, K.In base → base.Ns mainGlobals mg → FnOkG l.prog w K mg base k fa fd [x] sp) :
    PySem.W.WalkO q loose XP YP l.row.toRowW d [] (fun f vs => PySem.call f vs) :=
  Att.attach_call most plain fun w s₀ s₁ mg mb fa o pm cd doc a us ms G Y ho hd hcd named at_a are len gens => by
    obtain ⟨K, fd, sp, inK, bind, want, prom⟩ := F w mg fa _ Y G.T.g named
    exact law_callG inK G.T.g G.T.b G.T.builtins G.T.nolimit gens at_a are (Nat.le_trans len small) room prom bind fun H only seq => want H a ms len only seq
end CG

namespace CG
-- kexcis
open PySem PySem.Spec PyProof.Rows L2
/-! ### isinstance(e, (X, Y)), e the exception that the suite holds -/
/-- what the class D must say -/
structure ExcI (K : PySem.W.Frag) (D : Addr) : Prop where
  hl : (PySem.W.clsIn K D).isSome = true
  hg : PySem.W.findIn K (.ref D) "__getattribute__" = some (some (.builtin "BaseException.__getattribute__"))
  hk : PySem.W.findIn K (.ref D) "__getattr__" = some none
  hs : PySem.W.subIn K (.ref D) (.type "BaseException") = some true
  ha : PySem.W.findIn K (.ref D) "__class__" = some (some (.builtin "object.__class__"))
  hn : PySem.W.specialIn K (.builtin "object.__class__") "__get__" = some (some (.builtin "getset_descriptor.__get__"))
  ht : PySem.W.takesIn K (.builtin "object.__class__") = some true
  hm : PySem.W.mroIn K D (.type "object") = some true
def rIsET (K : PySem.W.Frag) (cls : Value) (d : Option Addr) (D a : Addr) : List V → Hp → VK → Prop := fun xs H Q => ∃ (tp : Addr) (cs : List V) (us : List Value) (b : Bool), xs = [.ref a, .ref tp] ∧ cls = .ref D ∧ H tp = some (.tup cs) ∧ Paired ClsV cs us ∧ (∃ (dd : Addr) (fs : List (Str × V)), d = some dd ∧ H dd = some (.xd fs)) ∧ PySem.W.kitAny K (.ref D) us = some b ∧ Q (.bl b) H
theorem call_isET {X : Cx} {a D : Addr} {oe : Obj} {cls : Value} {d : Option Addr} {pn : List (Addr × Obj)} (C : ExcI X.K D) (hz : Zc cls d oe) (hf : ∃ vs, oe.data = .fields vs) : CallR (X.suite a ((a, oe) :: pn)) (.builtin "isinstance") (rIsET X.K cls d D a) := by
  intro pins s σ H xs us Q I r h
  obtain ⟨tp, cs, ws, b, rfl, ec, hT, k, ⟨dd, fs, ed, hdd⟩, e, q⟩ := h
  obtain ⟨u1, u2, rfl, r1, r2⟩ := vals2 r
  obtain rfl : u1 = Value.ref a := r1
  obtain rfl : u2 = Value.ref tp := r2
  subst ec
  subst ed
  obtain ⟨hget, _⟩ := I.pin (a, oe) (List.mem_append.mpr (.inl List.mem_cons_self))
  obtain ⟨vs, hv⟩ := hf
  have hx : ObjOk X.prog X.w H s.heap dd (.xd fs) := I.hok dd _ hdd
  obtain ⟨mA, ⟨od, hod⟩, _⟩ := (show ∃ mA, (∃ o, s.heap.get? dd = some o) ∧ True by
    obtain ⟨mA, ⟨o, es, n, h1, _⟩, _⟩ := hx
    exact ⟨mA, ⟨o, h1⟩, trivial⟩)
  have J : PySem.W.InstAt s.heap a oe D (some od) := by
    obtain ⟨oc, odi, oda, osl⟩ := oe
    obtain ⟨h1, h2⟩ := hz
    dsimp only at h1 h2 hv
    subst h1 h2 hv
    exact ⟨hget, rfl, rfl, hod⟩
  obtain ⟨_, its, rv, o, h1, h2, n, h3⟩ := (show ObjOk X.prog X.w H s.heap tp (.tup cs) from I.hok tp _ hT)
  have e3 := ClsV.all k rv
  subst e3
  obtain ⟨oc, od2, dt, sl⟩ := o
  simp only at h2 h3
  subst h2 h3
  exact PySem.W.kia_tup (PySem.W.kitx_exc C.hl C.hg C.hk C.hs C.ha C.hn C.ht C.hm) I.kIn J h1 e (fun z => nomatch z) fun tk => ⟨.bl b, H, I.tok tk, rfl, q⟩
end CG

/-! ### repr of data that may be None -/
namespace CG
open PySem PySem.Spec PyProof.Rows L2
section
variable {X : Cx}
def rReprN (K : PySem.W.Frag) : List V → Hp → VK → Prop := fun vs H Q => ∃ (x : V) (d : PyData), vs = [x] ∧ (x = .non ∨ ∃ a, x = .ref a) ∧ Dp K H x d ∧ d.showable = true ∧ d.hasDict = false ∧ d.shown.length ≤ sizeLine ∧ d.depth ≤ 60 ∧ Q (.str d.shown) H
theorem cr_reprN (gd : X.A.guards = some []) (hu : X.A.units + 65 < cLine) : CallR X (.builtin "repr") (rReprN X.K) := by
  intro pins s σ H vs us Q I r h
  obtain ⟨x, d, rfl, c, hd, sh, nd, lz, dp, q⟩ := h
  rcases c with rfl | ⟨a, rfl⟩
  · cases hd
    obtain ⟨u, rfl, rfl⟩ := vals1 r
    exact PySem.P.repr_of_none ⟨.str _, H, I.tok _, ⟨_, rfl⟩, q⟩
  · exact cr_repr gd hu pins s σ H _ us Q I r ⟨a, d, rfl, hd, sh, nd, lz, dp, q⟩
end
end CG

-- lambdas
/-! ### lambdas without parameters as values -/
namespace CG
open PySem PySem.Spec PyProof.Rows L2
/-- what such a lambda is made of -/
structure LF where
  qual : Str
  params : Arguments
  body : Expr
  scope : Scope
  cl : List (Str × Addr)
  c : Addr
abbrev LF.ob (L : LF) (pm ctv : Value) : Obj := PySem.W.kla_obj "<lambda>" L.qual L.params L.body L.scope L.cl pm L.c ctv
/-- the object at f is the lambda L -/
def LamO (f : Addr) (L : LF) : HO := .ext fun h => ∃ pm ctv : Value, h.get? f = some (L.ob pm ctv)
theorem lamO_tbl {f : Addr} {L : LF} (ps : Array Value) : LamO f L ≠ .tbl ps := fun z => HO.noConfusion (show HO.ext _ = HO.tbl ps from z)
abbrev lname (X : Cx) : Str := X.env.qual ++ "<lambda>"
abbrev lfOf (X : Cx) (params : Arguments) (body : Expr) (scope : Scope) (c' : Addr) : LF := ⟨lname X, params, body, scope, cloFrom X.env.cells scope.names [], c'⟩
section
variable {X : Cx} {pins : List (Addr × Obj)} {σ : L2.St} {H : Hp} {s : Shared} {params : Arguments} {body : Expr} {scope : Scope}
/-- a lambda's object, just pushed, is known from now on -/
theorem lam_pushed {L : LF} {pm ctv : Value} {tk : Nat} (I : Inv X pins σ H s) : Inv X pins σ (upd H s.heap.objs.size (LamO s.heap.objs.size L)) { s with heap := s.heap.push (L.ob pm ctv), toks := tk } := by
  have here : (s.heap.push (L.ob pm ctv)).get? s.heap.objs.size = some (L.ob pm ctv) := Heap.get?_push_size _ rfl
  exact I.laid (fun b u q => Heap.get?_push_of_some _ q) (Nat.le_refl _) ⟨⟨pm, ctv, here⟩, ⟨_, here⟩, fun g1 g2 ⟨p, c, z⟩ keep => ⟨p, c, keep _ z⟩⟩
/-- the lambda is made -/
theorem lam_new {T : List (Addr × Str)} {c P : Addr} {pos : Pos} {E : Value → Shared → Prop} {Q : Value → Shared → Prop} (I : Inv X pins σ H s) (TB : LamX.TabB X.base X.mg c P) (hcode : X.env.code = .ref c)
    (hm : (P, lname X) ∈ T) (one : ∀ p ∈ T, p.1 = P → p.2 = lname X) (tabs : LamX.Tabs T H) (hdef : defaultsOf params X.env = ([], [])) (has : ∀ y ∈ scope.names, y.2 = .free → ∃ c, X.env.cells.lookup y.1 = some c)
    (k : ∀ (f c' : Addr) (G : Hp) (s' : Shared), Inv X pins σ G s' → LamX.ExtN H G → LamX.Tabs T G → H f = none → G f = some (LamO f (lfOf X params body scope c')) → G c' = some (LamX.CodeO c' (lname X)) → Q (.ref f) s') :
    wpAny (model X.prog X.w) X.A (eval (.Lambda params body scope pos) X.env) Q E s := by
  obtain ⟨ps, atP, trip, told⟩ := tabs _ hm
  have blt : s.heap.BuiltinsAt X.mg P := TB.bm.keeps I.bk
  have objP : s.heap.get? P = some { cls := .none, data := .fields ps } := I.hok P _ atP
  have hd := TB.code.keeps I.bk
  refine PySem.W.kla_eval hdef ?_
  match found : codeAmong pos ps.toList with
  | some cv =>
    obtain ⟨c', rfl, known⟩ := told pos cv found
    refine PySem.W.kla_makeFunctionHit (mg := X.mg) (c := c) (P := P) (ps := ps) (closure_ok has) I.ok.glob (I.mod.glob.keeps I.bk) hcode hd objP trip found blt fun ctv h' tk grown _ => ?_
    have J : Inv X pins σ H { s with heap := h', toks := tk } := I.kept grown
    have none1 : H h'.objs.size = none := J.hok.fresh (Nat.le_refl _)
    refine k h'.objs.size c' _ _ (lam_pushed (L := lfOf X params body scope c') (tk := tk) (pm := (X.mg "__name__").getD .none) (ctv := ctv) J) (fun b o e _ => ?_) (tabs.ext fun b o e => ?_) none1 upd_same ?_
    · rw [upd_ne (ne_of_none e none1)]
      exact e
    · rw [upd_ne (ne_of_none e none1)]
      exact e
    · rw [upd_ne (ne_of_none known none1)]
      exact known
  | none =>
    refine PySem.W.kla_makeFunction (mg := X.mg) (c := c) (P := P) (ps := ps) (closure_ok has) I.ok.glob (I.mod.glob.keeps I.bk) hcode hd objP trip found TB.gP blt fun c' ctv h' tk butP ge lt rec tabP => ?_
    obtain ⟨c2, oc, vs, t, e2, hoc, hdc, hv⟩ := rec
    obtain rfl := Value.ref.inj e2
    have none0 : H c' = none := I.hok.fresh ge
    have J := LamX.inv_table (t' := tk) (more := #[rawInt pos.line, rawInt pos.col, .ref c']) (h' := h') I atP (fun b o n e => butP b o n e) tabP ge ⟨oc, vs, t, hoc, hdc, hv⟩
    generalize hG : upd (upd H P (.tbl (ps ++ #[rawInt pos.line, rawInt pos.col, .ref c']))) c' (LamX.CodeO c' (lname X)) = G at J
    have nPc : P ≠ c' := ne_of_none atP none0
    have gP : G P = some (.tbl (ps ++ #[rawInt pos.line, rawInt pos.col, .ref c'])) := by rw [← hG, upd_ne nPc, upd_same]
    have gc : G c' = some (LamX.CodeO c' (lname X)) := by rw [← hG, upd_same]
    have gO : ∀ b o, b ≠ P → H b = some o → G b = some o := fun b o n e => by rw [← hG, upd_ne (ne_of_none e none0), upd_ne n]; exact e
    have gX : LamX.ExtN H G := fun b o e n => gO b o (fun z => n ps (Option.some.inj (e.symm.trans (by rw [z]; exact atP)))) e
    have eL : (ps ++ #[rawInt pos.line, rawInt pos.col, .ref c']).toList = ps.toList ++ [rawInt pos.line, rawInt pos.col, .ref c'] := by simp
    have tG : LamX.Tabs T G := fun p hp => by
      by_cases hb : p.1 = P
      · rw [one p hp hb, hb]
        refine ⟨_, gP, by rw [eL]; exact PySem.TriplesOk_snoc _ _ _ _ trip, fun p' cv hcv => ?_⟩
        rw [eL] at hcv
        rcases LamX.among_app _ trip hcv with z | z
        · obtain ⟨c0, a1, a2⟩ := told p' cv z
          exact ⟨c0, a1, gX _ _ a2 LamX.codeO_ne⟩
        · exact ⟨c', z, gc⟩
      · obtain ⟨us, a1, a2, a3⟩ := tabs p hp
        refine ⟨us, gO _ _ hb a1, a2, fun p' cv hcv => ?_⟩
        obtain ⟨c0, b1, b2⟩ := a3 p' cv hcv
        exact ⟨c0, b1, gX _ _ b2 LamX.codeO_ne⟩
    have none1 : G h'.objs.size = none := J.hok.fresh (Nat.le_refl _)
    have none2 : H h'.objs.size = none := I.hok.fresh (Nat.le_trans ge (Nat.le_of_lt lt))
    refine k h'.objs.size c' _ _ (lam_pushed (L := lfOf X params body scope c') (tk := tk) (pm := (X.mg "__name__").getD .none) (ctv := ctv) J) (fun b o e n => ?_) (tG.ext fun b o e => ?_) none2 upd_same ?_
    · have z := gX b o e n
      rw [upd_ne (ne_of_none z none1)]
      exact z
    · rw [upd_ne (ne_of_none e none1)]
      exact e
    · rw [upd_ne (ne_of_none gc none1)]
      exact gc
end
/-- the reading of a lambda: a new object -/
def tLamV (T : List (Addr × Str)) (mk : Addr → LF) : TE := fun _ H Q => LamX.Tabs T H ∧ ∀ (f c' : Addr) (G : Hp), LamX.ExtN H G → LamX.Tabs T G → H f = none → G f = some (LamO f (mk c')) → G c' = some (LamX.CodeO c' (mk c').qual) → Q (.ref f) G
theorem pe_lam {X : Cx} {T : List (Addr × Str)} {c P : Addr} {params : Arguments} {body : Expr} {scope : Scope} {pos : Pos} (TB : LamX.TabB X.base X.mg c P) (hcode : X.env.code = .ref c) (hm : (P, lname X) ∈ T) (one : ∀ p ∈ T, p.1 = P → p.2 = lname X)
    (L : LamX.LamS X.env.scope scope) (hdef : defaultsOf params X.env = ([], [])) : PE X (.Lambda params body scope pos) (tLamV T (lfOf X params body scope)) :=
  ⟨fun pins s σ H Q I ⟨tabs, h⟩ => lam_new I TB hcode hm one tabs hdef (L.has I.ok) fun f c' G s' J eN tG n1 a1 a2 => ⟨.ref f, G, J, rfl, h f c' G eN tG n1 a1 a2⟩⟩
/-- x(), in a def that was entered from the maker's frame X at s -/
theorem pe_act {X : Cx} {pins : List (Addr × Obj)} {σ : L2.St} {H : Hp} {s : Shared} {CXg : CXT} {Eg : XK} {Ng : List Str} {qg : Str} {sg : Scope} {g f c' : Addr} {cdg : Value} {params : Arguments} {body : Expr} {scope : Scope} {k i : Nat} {a : Str} {pn : List (Addr × Obj)}
    {xe : Value → Shared → Prop} {W : WX} {tb : XK → TE} {p1 p2 : Pos} (I : Inv X pins σ H s) (L : LamX.LamS X.env.scope scope)
    (bind : ∀ pm ctv : Value, bindArgs (PySem.W.kla_fn "<lambda>" (lname X) params body scope (cloFrom X.env.cells scope.names []) pm (.ref c') ctv) ⟨[], []⟩ = pure [])
    (tk : Takes ((cxOf CXg X.prog X.w X.K X.mg X.base Ng qg sg g cdg X.A X.stack s H Eg).tr pn xe) W) (room : Room (k + 1) (X.A.deeper (envOfC qg sg s.heap.objs.size g cdg)))
    (hbody : ∀ (A : Around) (outer : List Env) (s : Shared) (H : Hp) (E : XK), Room k (A.deeper (LamX.lamEnv X scope s.heap.objs.size f c')) → PE (LamX.lamCx X A outer s H E scope f c') body (tb E))
    (hN : Ng[i]? = some a) (hv : Vis sg a) (hd : (a == ("__debug__" : Str)) = false := by decide) (hcd : (a == ("__classdict__" : Str)) = false := by decide) :
    PE ((cxOf CXg X.prog X.w X.K X.mg X.base Ng qg sg g cdg X.A X.stack s H Eg).tr pn xe) (.Call (.Name a p1) [] [] p2)
      (fun τ G Q => τ[i]? = some (some (.ref f)) ∧ G f = some (LamO f (lfOf X params body scope c')) ∧ G c' = some (LamX.CodeO c' (lname X)) ∧ ∃ Ec : XK, (∀ cls d G', Ec cls d G' → W cls d τ G') ∧ tb Ec σ G Q) := by
  refine ⟨fun pinsZ sZ τ G Q IZ ⟨slot, isL, isC, Ec, hEc, h⟩ => ?_⟩
  have look := (pe_var (pos := p1) (i := i) hN hv hd hcd).run pinsZ sZ τ G (fun v G1 => v = .ref f ∧ G1 = G) IZ ⟨.ref f, slot, rfl, rfl⟩
  refine wpAny_Call_Name_kw (thn look fun u s1 ⟨v, G1, I1, r1, ev, eG⟩ => ?_)
  subst ev
  rw [eG] at I1
  obtain rfl : u = Value.ref f := r1
  obtain ⟨⟨pm, ctv, obj⟩, _, _⟩ := I1.hok f _ isL
  refine PySem.W.callWith_F0 ⟨_, _, _, _, obj⟩ ?_
  have un : Un (frs X.stack) [] H G s.heap s1.heap := I1.base
  obtain ⟨⟨oc, vs, t, hoc, hdc, hvc⟩, _, _⟩ := I1.hok c' _ isC
  have rc : codeAny (model X.prog X.w) (X.A.deeper (envOfC qg sg s.heap.objs.size g cdg)) (.call (.ref f) ⟨[], []⟩) (CR (L2.CX X.prog X.w) (envOfC qg sg s.heap.objs.size g cdg :: X.stack) X.prog X.w G s1 Q Ec) s1 := by
    refine PySem.W.kla_callFunE room.depth obj rfl L.co L.gen rfl ⟨c', oc, vs, t, rfl, hoc, hdc, hvc⟩ ?_
    rw [bind]
    refine wpAny_pure (wpAny_newFunctionEnv (fun y hy => (L.own y hy).2) (fun y hy => absurd hy List.not_mem_nil) (fun h₁ hns hsb => ⟨I1.nolimit.fresh _ hsb, ?_⟩) L.kind)
    show codeAny _ _ (.expr body (LamX.lamEnv X scope s1.heap.objs.size f c')) _ _
    have kept : ∀ b o, s1.heap.get? b = some o → h₁.get? b = some o := fun b o e => hsb.extBut b o (Nat.ne_of_lt (Heap.lt_size e)) (Heap.get?_push_of_some _ e)
    have J := LamX.lam_start2 (A := X.A.deeper (envOfC qg sg s.heap.objs.size g cdg)) (outer := envOfC qg sg s.heap.objs.size g cdg :: X.stack) (E := Ec) (f := f) (c' := c') (tk := s1.toks + ([] : List (Str × Value)).length) I L I1.env0 room.hd un hns kept
    refine PySem.W.kla_codeExpr (wpAny_mono ((hbody _ _ s1 G Ec (room.deeper _)).run [] _ _ G Q J h) (fun v s' out => ?_) fun e s' out => out)
    obtain ⟨v', G', J', rv, q⟩ := out
    exact ⟨v', G', J'.os, J'.bare, J'.base, J'.hok, rv, q⟩
  refine wpAny_call (codeAny_mono rc fun out s' q => ?_)
  match out, q with
  | .error e, q => exact tk e s' (XE.of_call I1 hEc q)
  | .ok (.ret u), q => exact I1.after q
/-- what a def makes of the lambda that it got: a calls it; Rd: that the lambda is there; tl: the lambda's reading -/
def Gives (P : Program) (w : World) (K : PySem.W.Frag) (mg : Str → Option Value) (base : Heap) (k : Nat) (Ng : List Str) (x a : Str) (st : Stmt) (g : Addr) (TT : (XK → Hp → VK → Prop) → Hp → VK → Prop) : Prop :=
  ∀ (A : Around) (outer : List Env) (cdg : Value) (f : Addr) (s : Shared) (H : Hp) (Q : VK) (Rd : Hp → Prop) (tl : XK → Hp → VK → Prop), A.guards = some [] → Room k (A.deeper (envOfC x (defScope st) s.heap.objs.size g cdg)) →
    (∀ (W : WX) (pn : List (Addr × Obj)) (xe : Value → Shared → Prop) (p1 p2 : Pos), Takes ((cxOf CX0 P w K mg base Ng x (defScope st) g cdg A outer s H fun _ _ _ => False).nox.tr pn xe) W →
      PE ((cxOf CX0 P w K mg base Ng x (defScope st) g cdg A outer s H fun _ _ _ => False).nox.tr pn xe) (.Call (.Name a p1) [] [] p2) (fun τ G Q => τ[0]? = some (some (.ref f)) ∧ Rd G ∧ ∃ Ec : XK, (∀ cls d G', Ec cls d G' → W cls d τ G') ∧ tl Ec G Q)) →
    Rd H → TT tl H Q → ∃ t, PSs (cxOf CX0 P w K mg base Ng x (defScope st) g cdg A outer s H fun _ _ _ => False).nox (defBody st) t ∧ t { nx := fun _ H' => Q .non H', rt := Q } (start Ng [.ref f]) H
/-- the reading of x(e), e one of some lambdas of this very frame -/
def tSaid (X : Cx) {ι : Type} (pa : ι → Arguments) (bo : ι → Expr) (sc : ι → Scope) (tb : ι → XK → TE) (TT : (XK → Hp → VK → Prop) → Hp → VK → Prop) (te : TE) : TE := fun σ H Q => te σ H fun v H1 =>
  ∃ (i : ι) (f c' : Addr), [v] = [V.ref f] ∧ H1 f = some (LamO f (lfOf X (pa i) (bo i) (sc i) c')) ∧ H1 c' = some (LamX.CodeO c' (lname X)) ∧ TT (fun E G R => tb i E σ G R) H1 Q
/-- x(e), e one of some lambdas of this very frame -/
theorem pe_said {X : Cx} {ι : Type} {pa : ι → Arguments} {bo : ι → Expr} {sc : ι → Scope} {tb : ι → XK → TE} {x a : Str} {st : Stmt} {g : Addr} {fd : FuncData} {Ng : List Str} {k : Nat} {TT : (XK → Hp → VK → Prop) → Hp → VK → Prop} {e : Expr} {te : TE} {p pos : Pos}
    (F : Fun X.K x x st g fd) (b : Binds X.K fd [a] []) (S : FnScope Ng [a] (defScope st)) (hg : Gl X x) (hm : X.mg x = some (.ref g)) (n0 : Ng[0]? = some a) (va : Vis (defScope st) a) (gives : Gives X.prog X.w X.K X.mg X.base k Ng x a st g TT) (gd : X.A.guards = some []) (room : Room (k + 2) X.A)
    (lam : ∀ i, LamX.LamS X.env.scope (sc i)) (bind : ∀ (i : ι) (q : Str) (cl : List (Str × Addr)) (pm cv ctv : Value), bindArgs (PySem.W.kla_fn "<lambda>" q (pa i) (bo i) (sc i) cl pm cv ctv) ⟨[], []⟩ = pure [])
    (hbody : ∀ (i : ι) (A : Around) (outer : List Env) (s : Shared) (H : Hp) (E : XK) (f c' : Addr), Room k (A.deeper (LamX.lamEnv X (sc i) s.heap.objs.size f c')) → PE (LamX.lamCx X A outer s H E (sc i) f c') (bo i) (tb i E))
    (he : PE X e te) (hdb : (x == ("__debug__" : Str)) = false := by decide) (hd : (a == ("__debug__" : Str)) = false := by decide) (hcd : (a == ("__classdict__" : Str)) = false := by decide)
    (hst : starEach [e] X.env = (false, eval e X.env) :: starEach [] X.env := by rfl) (hpl : (backTo pos (starEach [] X.env)).any (·.1) = false := by rfl) :
    PE X (.Call (.Name x p) [e] [] pos) (tSaid X pa bo sc tb TT te) := by
  refine ⟨fun pins s σ H Q I h => ?_⟩
  obtain ⟨oc, od, kV, doc, pm, an, cdv, ct, osl, rfl, lk, hcd0⟩ := F.ex
  have arg : PA X [e] (tCons te tNil) := pa_cons (hs := hst) he pa_nil
  have h2 : tCons te tNil σ H (fun vs H1 => ∃ (i : ι) (f c' : Addr), vs = [.ref f] ∧ H1 f = some (LamO f (lfOf X (pa i) (bo i) (sc i) c')) ∧ H1 c' = some (LamX.CodeO c' (lname X)) ∧ TT (fun E G R => tb i E σ G R) H1 Q) := h
  refine wpAny_Call_Name_kw (ld_glob I hg hm (PySem.W.callWith_K (h₀ := X.base) I.ok.mod.kin F.kp (thn (arg.run pos pins s σ H _ I h2) fun us s1 hh => ?_) hst hpl) hdb)
  obtain ⟨vs, H1, I1, r, i, f, c', rfl, isL, isC, tt⟩ := hh
  rw [Vals.ref1 r]
  refine ⟨I1.kIn, ?_⟩
  have rc : codeAny (model X.prog X.w) X.A (.call (.ref g) ⟨[.ref f], []⟩) (CR CX0 X.stack X.prog X.w H1 s1 Q fun _ _ _ => False) s1 := by
    refine LamX.run_ofS (k := k + 1) (N := Ng) (ps := [a]) (us := [.ref f]) (vs := [.ref f]) lk hcd0 S room I1.env0 (b s1 [.ref f] I1.kIn rfl) (.cons rfl .nil) rfl fun inner => ?_
    obtain ⟨t, ht, q⟩ := gives X.A X.stack cdv f s1 H1 Q (fun G => G f = some (LamO f (lfOf X (pa i) (bo i) (sc i) c')) ∧ G c' = some (LamX.CodeO c' (lname X))) (fun E G R => tb i E σ G R) gd (inner.mono (Nat.le_succ k))
      (fun W pn xe p1 p2 tk => ⟨fun pins s τ G R J z => (pe_act (CXg := CX0) (Eg := fun _ _ _ => False) (i := 0) I1 (lam i) (fun pm ctv => bind i _ _ _ _ _) tk inner (fun A outer s H E => hbody i A outer s H E f c') n0 va hd hcd).run pins s τ G R J ⟨z.1, z.2.1.1, z.2.1.2, z.2.2⟩⟩) ⟨isL, isC⟩ tt
    exact ⟨t, ht.nox, q⟩
  refine wpAny_call (codeAny_mono rc fun out s2 q => ?_)
  match out, q with
  | .error err, q => exact (show False from q).elim
  | .ok (.ret u), q => exact I1.after q
/-- the reading of x(lambda: ..): the table of code objects at P -/
def tSaid1 (X : Cx) (P : Addr) (tb : XK → TE) (TT : (XK → Hp → VK → Prop) → Hp → VK → Prop) : TE := fun σ H Q =>
  LamX.Tabs [(P, lname X)] H ∧ ∀ G, LamX.ExtN H G → LamX.Tabs [(P, lname X)] G → TT (fun E G R => tb E σ G R) G Q
/-- x(lambda: ..) -/
theorem pe_said1 {X : Cx} {tb : XK → TE} {x a : Str} {st : Stmt} {g c P : Addr} {fd : FuncData} {Ng : List Str} {k : Nat} {TT : (XK → Hp → VK → Prop) → Hp → VK → Prop} {params : Arguments} {body : Expr} {scope : Scope} {p lpos pos : Pos}
    (F : Fun X.K x x st g fd) (b : Binds X.K fd [a] []) (S : FnScope Ng [a] (defScope st)) (hg : Gl X x) (hm : X.mg x = some (.ref g)) (n0 : Ng[0]? = some a) (va : Vis (defScope st) a) (gives : Gives X.prog X.w X.K X.mg X.base k Ng x a st g TT) (gd : X.A.guards = some []) (room : Room (k + 2) X.A)
    (TB : LamX.TabB X.base X.mg c P) (hcode : X.env.code = .ref c)
    (hbody : ∀ (A : Around) (outer : List Env) (s : Shared) (H : Hp) (E : XK) (f c' : Addr), Room k (A.deeper (LamX.lamEnv X scope s.heap.objs.size f c')) → PE (LamX.lamCx X A outer s H E scope f c') body (tb E))
    (lam : LamX.LamS X.env.scope scope) (hdef : defaultsOf params X.env = ([], []) := by rfl) (bind : ∀ (q : Str) (cl : List (Str × Addr)) (pm cv ctv : Value), bindArgs (PySem.W.kla_fn "<lambda>" q params body scope cl pm cv ctv) ⟨[], []⟩ = pure [] := by intros; rfl)
    (hdb : (x == ("__debug__" : Str)) = false := by decide) (hd : (a == ("__debug__" : Str)) = false := by decide) (hcd : (a == ("__classdict__" : Str)) = false := by decide)
    (hst : starEach [Expr.Lambda params body scope lpos] X.env = (false, eval (Expr.Lambda params body scope lpos) X.env) :: starEach [] X.env := by rfl) (hpl : (backTo pos (starEach [] X.env)).any (·.1) = false := by rfl) :
    PE X (.Call (.Name x p) [.Lambda params body scope lpos] [] pos) (tSaid1 X P tb TT) := by
  have he : PE X (.Lambda params body scope lpos) (tLamV [(P, lname X)] (lfOf X params body scope)) := pe_lam TB hcode (List.mem_singleton.mpr rfl) (fun p hp _ => by rw [List.mem_singleton.mp hp]) lam hdef
  refine ⟨fun pins s σ H Q I h => ?_⟩
  refine (pe_said (ι := Unit) (pa := fun _ => params) (bo := fun _ => body) (sc := fun _ => scope) (tb := fun _ => tb) (TT := TT) F b S hg hm n0 va gives gd room (fun _ => lam) (fun _ => bind) (fun _ => hbody) he hdb hd hcd hst hpl).run pins s σ H Q I ?_
  exact ⟨h.1, fun f c' G eN tG _ a1 a2 => ⟨(), f, c', rfl, a1, a2, h.2 G eN tG⟩⟩
end CG

/-! ### defs that make lambdas, and the end where they stand -/
namespace CG
open PySem PySem.Spec PyProof.Rows L2
section
variable {P : Program} {w : World} {K : PySem.W.Frag} {mg : Str → Option Value} {base : Heap}
/-- a def by its body, where nothing is being printed and its code object is known -/
theorem okGT {x qual : Str} {st : Stmt} {f c : Addr} {fd : FuncData} {N ps : List Str} {k : Nat} {sp : Sp} (F : Fun K x qual st f fd) (at_c : fd.code = .ref c) (S : FnScope N ps (defScope st)) (len : ∀ vs H Q E, sp vs H Q E → vs.length = ps.length)
    (body : ∀ (A : Around) (fr : List Env) (s : Shared) (H : Hp) (vs : List V) (Q : VK) (E : XK), A.guards = some [] → Room k (A.deeper (envOfC qual (defScope st) s.heap.objs.size f (.ref c))) → sp vs H Q E →
      ∃ t, PSs (cxOf CX0 P w K mg base N qual (defScope st) f (.ref c) A fr s H E).nox (defBody st) t ∧ t { nx := fun _ H' => Q .non H', rt := Q } (start N vs) H) : FnOkG P w K mg base (k + 1) f fd ps sp := by
  obtain ⟨o1, o2, d1, d2, d3, o3, cd, ct, o4, rfl, look, code⟩ := F.ex
  obtain rfl : cd = .ref c := at_c
  refine ⟨len, fun A fr s H as us vs Q E gd room en bind rel want => ?_⟩
  have kin : K.In s.heap := en.mod.kin.keeps fun b o e => (en.bs b o e).1
  have lim := en.mod.nolimit.keeps fun b o e => (en.bs b o e).1
  have kinds : ∀ y ∈ ps.zip us, (defScope st).names.lookup y.1 = some .local ∨ ((defScope st).names.lookup y.1 = some .cell ∧ ((cellsFrom (s.heap.objs.size + 1) (defScope st).names []).lookup y.1).isSome = true) := fun ⟨n, v⟩ hy =>
    (S.par n (List.of_mem_zip hy).1).imp id fun q => ⟨q, PySem.W.cellsFrom_some _ _ _ (.inl q)⟩
  refine codeAny_call_function room.depth (kin _ _ look) rfl S.co S.gen rfl (PySem.W.codeRec_of kin code) (bind _ _ _ _ ?_)
  refine wpAny_newFunctionEnv_cells S.kind kinds fun env isEnv s1 entry => ?_
  subst isEnv
  refine ⟨lim.keeps entry.toInCall.keep, codeAny_func ?_⟩
  obtain ⟨t, rule, reading⟩ := body A fr s H vs Q E gd (room.deeper _) want
  have begins := inv_start (CX := CX0) (E := E) S room.hd en (len _ _ _ _ want) rel entry
  refine wpAny_mono (rule.nox.run [] s1 (start N vs) H _ begins reading) (fun fl s' out => ?_) fun e s' out => out
  match fl, out with
  | .ret u, ⟨v, _, H', J, rv, q⟩ => exact ⟨v, H', J.os, J.bare, J.base, J.hok, rv, q⟩
  | .next, ⟨_, H', J, q⟩ => exact ⟨V.non, H', J.os, J.bare, J.base, J.hok, rfl, q⟩
  | .brk, ⟨_, _, _, q⟩ => exact q.elim
  | .cont, ⟨_, _, _, q⟩ => exact q.elim
end
/-- the code object and its empty table of the def that stands at fa -/
def TabAt (h : Heap) (mg : Str → Option Value) (x : Str) : Prop := ∃ (a : Addr) (o : Obj) (fd : FuncData) (c P : Addr), mg x = some (.ref a) ∧ h.get? a = some o ∧ o.data = .func fd ∧ fd.code = .ref c ∧ PySem.W.CodeHd h c P ∧ h.get? P = some { cls := .none, data := .fields #[] }
theorem tab_by {h : Heap} {mg : Str → Option Value} {l : List DefRec} {x : Str} (tabs : ∀ r ∈ l, TabAt h mg r.name) (m : x ∈ l.map (·.name)) : TabAt h mg x := by
  obtain ⟨r, hr, rfl⟩ := List.mem_map.mp m
  exact tabs r hr
/-- where a def's data are known, so is its code object -/
theorem TabAt.at {h : Heap} {mg : Str → Option Value} {K : PySem.W.Frag} {x qual : Str} {st : Stmt} {f : Addr} {fd : FuncData} (t : TabAt h mg x) (inK : K.In h) (m : mg x = some (.ref f)) (F : Fun K x qual st f fd) :
    ∃ c P, fd.code = .ref c ∧ PySem.W.CodeHd h c P ∧ h.get? P = some { cls := .none, data := .fields #[] } := by
  obtain ⟨a, o, fd2, c, P, m2, at_a, isF, isC, hd, tab⟩ := t
  obtain ⟨_, _, _, _, _, _, _, _, _, rfl, look, _⟩ := F.ex
  obtain rfl : f = a := Value.ref.inj (Option.some.inj (m.symm.trans m2))
  obtain rfl := Option.some.inj ((inK _ _ look).symm.trans at_a)
  obtain rfl := Data.func.inj isF
  exact ⟨c, P, isC, hd, tab⟩
/-- no table of code objects stands in the part -/
def noTab (K : PySem.W.Frag) : Bool := K.all fun p => match p.2.cls, p.2.data with
  | .none, .fields _ => false
  | _, _ => true
theorem noTab_at {K : PySem.W.Frag} {h : Heap} {P : Addr} (inK : K.In h) (n : noTab K = true) (e : h.get? P = some { cls := .none, data := .fields #[] }) : K.lookup P = none := by
  cases l : K.lookup P with
  | none => rfl
  | some o =>
    obtain rfl := Option.some.inj ((inK _ _ l).symm.trans e)
    have := List.all_eq_true.mp n (P, { cls := .none, data := .fields #[] }) (PySem.W.mem_of_lookupK l)
    exact nomatch (show false = true from this)
/-- the law at its script, from a promise of that kind, the tables of code objects known -/
theorem law_callGT {P : Program} {w : World} {K : PySem.W.Frag} {mg mb : Str → Option Value} {k : Nat} {fa a : Addr} {ts : List (Addr × Addr)} {fd : FuncData} {x : Str} {sp : Sp} {s₁ : Shared} {us : List Value} {ms : List Int}
    (inK : K.In s₁.heap) (g1 : s₁.heap.Ns mainGlobals mg) (g2 : s₁.heap.Ns builtinsNs mb) (g3 : ∀ x : Str, x ≠ "__name__" → mb x = bootBuiltins x) (g4 : s₁.heap.NoLimit) (g5 : s₁.gens = #[])
    (empty : ∀ p ∈ ts, s₁.heap.get? p.2 = some { cls := .none, data := .fields #[] }) (offK : ∀ p ∈ ts, K.lookup p.2 = none) (codes : ∀ p ∈ ts, PySem.W.CodeHd s₁.heap p.1 p.2)
    (main : ∃ (bm : Addr) (ob : Obj), mg "__builtins__" = some (.ref bm) ∧ bm ≠ builtinsNs ∧ s₁.heap.get? bm = some ob ∧ ob.cls = .type "module" ∧ ob.dict = some builtinsNs ∧ ob.data = .plain)
    (at_a : s₁.heap.get? a = some { cls := .type "list", data := .seq us.toArray }) (are : IntsAre us ms) (short : ms.length ≤ sizeLine) (room : Room k callerA)
    (F : ∀ base : Heap, K.In base → base.Ns mainGlobals mg → (∀ p ∈ ts, LamX.TabB base mg p.1 p.2) → FnOkG P w K mg base k fa fd [x] sp) (bind : ∀ (s : Shared) (u : Value), BindsTo s fd ⟨[u], []⟩ [(x, u)])
    (want : ∀ H : Hp, (∀ p ∈ ts, H p.2 = some (.tbl #[])) → SqL K H a (ms.map V.int) → sp [.ref a] H (fun v _ => v = .bl true) fun _ _ _ => False) :
    codeAny (model P w) callerA (.call (.ref fa) ⟨[.ref a], []⟩) (fun r s' => r = .ok (.ret (.bool true)) ∧ OldK s₁.heap s'.heap ∧ s'.os = s₁.os ∧ AllBare s'.gens) s₁ := by
  have vals := vals_ints are
  have many := are.length
  let tb : List Addr := ts.map (·.2)
  have isT : ∀ b ∈ tb, s₁.heap.get? b = some { cls := .none, data := .fields #[] } := fun b hb => by
    obtain ⟨p, hp, rfl⟩ := List.mem_map.mp hb
    exact empty p hp
  have inT : ∀ p ∈ ts, p.2 ∈ tb := fun p hp => List.mem_map.mpr ⟨p, hp, rfl⟩
  have aT : a ∉ tb := fun z => by
    have q := (isT a z).symm.trans at_a
    exact nomatch (congrArg Obj.data (Option.some.inj q) : Data.fields #[] = Data.seq us.toArray _)
  have core : ∀ H : Hp, (∀ p ∈ ts, H p.2 = some (.tbl #[])) → (∀ b, H b = none ∨ b ∈ tb ∨ ∃ o xs, H b = some (.frz o (.lst xs))) → SqL K H a (ms.map V.int) → HOk P w H s₁.heap → (∀ b, H b ≠ none → b = a ∨ b ∈ tb) → (H a ≠ none → K.lookup a = none) →
      codeAny (model P w) callerA (.call (.ref fa) ⟨[.ref a], []⟩) (fun r s' => r = .ok (.ret (.bool true)) ∧ OldK s₁.heap s'.heap ∧ s'.os = s₁.os ∧ AllBare s'.gens) s₁ := by
    intro H atT only seq hok just out
    have off : ∀ {b : Addr} {o : Obj}, s₁.heap.get? b = some o → (∀ vs n, o.data ≠ .seq vs n) → o.data ≠ .fields #[] → (hidT s₁.heap H).get? b = some o := fun {b o} e n1 n2 => hidT_get e (Classical.byContradiction fun z => by
      rcases just b z with rfl | hb
      · obtain rfl := Option.some.inj (at_a.symm.trans e)
        exact n1 _ _ rfl
      · obtain rfl := Option.some.inj ((isT b hb).symm.trans e)
        exact n2 rfl)
    have dicts : ∀ {b : Addr} {o : Obj} {es : Array DictEntry} {n : Nat}, s₁.heap.get? b = some o → o.data = .dict es n → (hidT s₁.heap H).get? b = some o := fun {b o es n} e d => off e (fun vs m z => nomatch d.symm.trans z) fun z => nomatch d.symm.trans z
    have names : ∀ {b : Addr} {m : Str → Option Value}, s₁.heap.Ns b m → (hidT s₁.heap H).Ns b m := fun {b m} ⟨o, es, n, e, d, r⟩ => ⟨o, es, n, dicts e d, d, r⟩
    have inB : K.In (hidT s₁.heap H) := fun b o e => hidT_get (inK b o e) (Classical.byContradiction fun z => by
      rcases just b z with rfl | hb
      · rw [out z] at e
        cases e
      · obtain ⟨p, hp, rfl⟩ := List.mem_map.mp hb
        rw [offK p hp] at e
        cases e)
    have known : Mod K mg (hidT s₁.heap H) := ⟨inB, names g1, ⟨mb, names g2, g3⟩, g4.elim fun mc z => ⟨mc, names z.1, z.2⟩⟩
    have made : ∀ p ∈ ts, LamX.TabB (hidT s₁.heap H) mg p.1 p.2 := fun p hp => by
      have here := empty p hp
      have notG : mainGlobals ≠ p.2 := fun z => by
        obtain ⟨o, es, n, e, d, _⟩ := g1
        rw [z] at e
        obtain rfl := Option.some.inj (here.symm.trans e)
        exact nomatch d
      refine ⟨?_, ?_, notG⟩
      · obtain ⟨o, vs, fl, tf, fg, tg, nf, tx, tt, e1, r1, r2, r3, r⟩ := codes p hp
        refine ⟨o, vs, fl, tf, fg, tg, nf, tx, tt, off e1 (fun _ _ z => nomatch r2.symm.trans z) (fun z => ?_), r1, r2, r3, r⟩
        obtain rfl := Data.fields.inj (r2.symm.trans z)
        exact absurd r3 (by simp)
      · obtain ⟨bm, ob, b1, b2, b3, b4, b5, b6⟩ := main
        refine ⟨bm, ob, b1, b2, fun z => ?_, fun z => ?_, off b3 (fun _ _ z => nomatch b6.symm.trans z) (fun z => nomatch b6.symm.trans z), b4, b5, b6⟩
        · obtain ⟨o, es, n, e, d, _⟩ := g1
          rw [z] at b3
          obtain rfl := Option.some.inj (b3.symm.trans e)
          exact nomatch b6.symm.trans d
        · rw [z] at b3
          obtain rfl := Option.some.inj (b3.symm.trans here)
          exact nomatch b6
    have entry : Env0 P w K mg (hidT s₁.heap H) callerA [] s₁ H := ⟨rfl, known, fun b o e => of_hidT e, Nat.le_of_eq (hidT_size _ _), trivial, fun b z => (List.not_mem_nil z).elim, hok, .of_eq g5⟩
    refine codeAny_mono ((F _ inB (names g1) made).go callerA [] s₁ H ⟨[.ref a], []⟩ [.ref a] [.ref a] _ _ rfl room entry (bind s₁ (.ref a)) (.cons rfl .nil) (want H atT seq)) fun r s' h => ?_
    match r, h with
    | .ok (.ret u), ⟨v, H', os, bare, un, hok', rel, (q : v = .bl true)⟩ =>
      subst q
      obtain rfl : u = Value.bool true := rel
      have stays : ∀ b o, b ∉ tb → s₁.heap.get? b = some o → s'.heap.get? b = some o := fun b o nb e => by
        rcases only b with z | z | ⟨ob, xs, z⟩
        · exact un.keep b o e z (fun m => (List.not_mem_nil m).elim) (by simp)
        · exact absurd z nb
        · have e1 := (hok b _ z).1
          have e2 := (hok' b _ (un.frzs b ob _ z)).1
          obtain rfl := Option.some.inj (e.symm.trans e1)
          exact e2
      have grown : ∀ p ∈ ts, ∃ more : Array Value, s'.heap.get? p.2 = some { cls := .none, data := .fields more } := fun p hp => by
        obtain ⟨more, z⟩ := un.tbls p.2 #[] (atT p hp)
        exact ⟨_, hok' p.2 _ z⟩
      refine ⟨rfl, ⟨fun b o e => ?_, fun b o e => ?_⟩, os, bare⟩
      · rcases Classical.em (b ∈ tb) with hb | hb
        · obtain ⟨p, hp, rfl⟩ := List.mem_map.mp hb
          obtain ⟨more, hm⟩ := grown p hp
          obtain rfl := Option.some.inj ((empty p hp).symm.trans e)
          exact .inr (.inl ⟨((codes p hp).tab (empty p hp)).isCodeTable, rfl, #[], more, rfl, by rw [Array.empty_append]; exact hm⟩)
        · exact .inl (stays b o hb e)
      · rcases Classical.em (b ∈ tb) with hb | hb
        · obtain ⟨p, hp, rfl⟩ := List.mem_map.mp hb
          obtain ⟨more, hm⟩ := grown p hp
          exact ⟨_, hm⟩
        · exact ⟨o, stays b o hb e⟩
  cases look : K.lookup a with
  | some o =>
    obtain rfl := Option.some.inj (at_a.symm.trans (inK a o look))
    let G : Hp := fun b => if b ∈ tb then some (.tbl #[]) else none
    have gT : ∀ b ∈ tb, G b = some (.tbl #[]) := fun b hb => if_pos hb
    have gN : ∀ b, b ∉ tb → G b = none := fun b hb => if_neg hb
    refine core G (fun p hp => gT _ (inT p hp)) (fun b => ?_) (.inr ⟨_, us.toArray, _, look, rfl, rfl, rfl, by simpa [many] using short, by simpa using vals⟩) (fun b u z => ?_) (fun b z => .inr (Classical.byContradiction fun n => z (gN b n))) fun z => (z (gN a aT)).elim
    · exact (Classical.em (b ∈ tb)).elim (fun h => .inr (.inl h)) fun h => .inl (gN b h)
    · rcases Classical.em (b ∈ tb) with h | h
      · obtain rfl := Option.some.inj ((gT b h).symm.trans z)
        exact isT b h
      · exact absurd ((gN b h).symm.trans z) (fun e => nomatch e)
  | none =>
    let O : Obj := { cls := .type "list", data := .seq us.toArray }
    let G : Hp := fun b => if b = a then some (.frz O (.lst (ms.map V.int))) else if b ∈ tb then some (.tbl #[]) else none
    have gA : G a = some (.frz O (.lst (ms.map V.int))) := if_pos rfl
    have gT : ∀ b ∈ tb, G b = some (.tbl #[]) := fun b hb => (if_neg (fun z : b = a => aT (z ▸ hb))).trans (if_pos hb)
    have gN : ∀ b, b ≠ a → b ∉ tb → G b = none := fun b n hb => (if_neg n).trans (if_neg hb)
    refine core G (fun p hp => gT _ (inT p hp)) (fun b => ?_) (.inl (.inr ⟨O, gA⟩)) (fun b u z => ?_) (fun b z => ?_) fun _ => look
    · rcases Decidable.em (b = a) with rfl | n
      · exact .inr (.inr ⟨_, _, gA⟩)
      · exact (Classical.em (b ∈ tb)).elim (fun h => .inr (.inl h)) fun h => .inl (gN b n h)
    · rcases Decidable.em (b = a) with rfl | n
      · obtain rfl := Option.some.inj (gA.symm.trans z)
        exact ⟨at_a, by rw [List.length_map]; exact short, us, _, vals, at_a⟩
      · rcases Classical.em (b ∈ tb) with h | h
        · obtain rfl := Option.some.inj ((gT b h).symm.trans z)
          exact isT b h
        · exact absurd ((gN b n h).symm.trans z) (fun e => nomatch e)
    · rcases Decidable.em (b = a) with rfl | n
      · exact .inl rfl
      · exact .inr (Classical.byContradiction fun h => z (gN b n h))
/-- a law's end, from a promise of that kind -/
theorem walk_ofGT {l : PySem.W.OpenLaw} {n k : Nat} {q : Program} {loose : List Str} {XP : (Str → Option Value) → Heap → Prop} {YP : World → Heap → Prop} {d : DefRec} {x : Str}
    (most : l.most = some n) (small : n ≤ sizeLine) (plain : d.params.defaults = []) (room : Room k callerA)
    (F : ∀ (w : World) (mg : Str → Option Value) (fa : Addr) (h : Heap), YP w h → h.Ns mainGlobals mg → mg d.name = some (.ref fa) → (∀ r ∈ recsOf q, TabAt h mg r.name) →
      ∃ (K : PySem.W.Frag) (fd : FuncData) (sp : Sp) (ts : List (Addr × Addr)), K.In h ∧ (∀ p ∈ ts, h.get? p.2 = some { cls := .none, data := .fields #[] }) ∧ (∀ p ∈ ts, K.lookup p.2 = none) ∧ (∀ p ∈ ts, PySem.W.CodeHd h p.1 p.2) ∧ (∀ (s : Shared) (u : Value), BindsTo s fd ⟨[u], []⟩ [(x, u)]) ∧
        (∀ (H : Hp) (a : Addr) (ms : List Int), ms.length ≤ n → (∀ p ∈ ts, H p.2 = some (.tbl #[])) → SqL K H a (ms.map V.int) → sp [.ref a] H (fun v _ => v = .bl true) fun _ _ _ => False) ∧
        ∀ base : Heap, K.In base → base.Ns mainGlobals mg → (∀ p ∈ ts, LamX.TabB base mg p.1 p.2) → FnOkG l.prog w K mg base k fa fd [x] sp) :
    PySem.W.WalkO q loose XP YP l.row.toRowW d [] (fun f vs => PySem.call f vs) :=
  Att.attach_call most plain fun w s₀ s₁ mg mb fa o pm cd doc a us ms G Y ho hd hcd named at_a are len gens => by
    have tabs : ∀ r ∈ recsOf q, TabAt s₁.heap mg r.name := fun r hr => by
      obtain ⟨b, u, fd, c, P, m, e1, e2, e3, e4, e5⟩ := G.T.tab r hr
      refine ⟨b, u, fd, c, P, m, e1, e2, e3, PySem.W.CodeHd.of e4 e5, ?_⟩
      exact e5.2
    obtain ⟨K, fd, sp, ts, inK, t1, t2, t3, bind, want, prom⟩ := F w mg fa _ Y G.T.g named tabs
    exact law_callGT inK G.T.g G.T.b G.T.builtins G.T.nolimit gens t1 t2 t3 G.T.bmain at_a are (Nat.le_trans len small) room prom bind fun H atT seq => want H a ms len atT seq
end CG

namespace CS
open PySem PySem.Spec PyProof.Rows L2
def top (i : Nat) : Stmt := PySem.Challenge.pw_calledseats_k23_plans_by_others_checked.main.body.getD i (.Pass ⟨0, 0, 0, 0⟩)
abbrev s_wall : Stmt := top 0
abbrev N_wall : List Str := ["k"]
theorem sc_wall : FnScope N_wall ["k"] (defScope s_wall) := ⟨rfl, rfl, rfl, by decide +kernel, rfl, by decide +kernel, by decide +kernel⟩
abbrev s_InvalidWitness_init : Stmt := inClass (top 8) 0
abbrev N_InvalidWitness_init : List Str := ["self", "index"]
theorem sc_InvalidWitness_init : FnScope N_InvalidWitness_init ["self", "index"] (defScope s_InvalidWitness_init) := ⟨rfl, rfl, rfl, by decide +kernel, rfl, by decide +kernel, by decide +kernel⟩
abbrev s_is_integer : Stmt := top 10
abbrev N_is_integer : List Str := ["value"]
theorem sc_is_integer : FnScope N_is_integer ["value"] (defScope s_is_integer) := ⟨rfl, rfl, rfl, by decide +kernel, rfl, by decide +kernel, by decide +kernel⟩
abbrev s_is_at_least : Stmt := top 11
abbrev N_is_at_least : List Str := ["value", "low"]
theorem sc_is_at_least : FnScope N_is_at_least ["value", "low"] (defScope s_is_at_least) := ⟨rfl, rfl, rfl, by decide +kernel, rfl, by decide +kernel, by decide +kernel⟩
abbrev s_is_between : Stmt := top 12
abbrev N_is_between : List Str := ["value", "low", "high"]
theorem sc_is_between : FnScope N_is_between ["value", "low", "high"] (defScope s_is_between) := ⟨rfl, rfl, rfl, by decide +kernel, rfl, by decide +kernel, by decide +kernel⟩
abbrev s_Table_init : Stmt := inClass (top 15) 0
abbrev N_Table_init : List Str := ["self", "rings", "size"]
theorem sc_Table_init : FnScope N_Table_init ["self", "rings"] (defScope s_Table_init) := ⟨rfl, rfl, rfl, by decide +kernel, rfl, by decide +kernel, by decide +kernel⟩
abbrev s_Table_sizes : Stmt := inClass (top 15) 1
abbrev N_Table_sizes : List Str := ["self"]
theorem sc_Table_sizes : FnScope N_Table_sizes ["self"] (defScope s_Table_sizes) := ⟨rfl, rfl, rfl, by decide +kernel, rfl, by decide +kernel, by decide +kernel⟩
abbrev s_Table_count : Stmt := inClass (top 15) 2
abbrev N_Table_count : List Str := ["self"]
theorem sc_Table_count : FnScope N_Table_count ["self"] (defScope s_Table_count) := ⟨rfl, rfl, rfl, by decide +kernel, rfl, by decide +kernel, by decide +kernel⟩
abbrev s_Table_is_seat : Stmt := inClass (top 15) 3
abbrev N_Table_is_seat : List Str := ["self", "value", "place", "size"]
theorem sc_Table_is_seat : FnScope N_Table_is_seat ["self", "value"] (defScope s_Table_is_seat) := ⟨rfl, rfl, rfl, by decide +kernel, rfl, by decide +kernel, by decide +kernel⟩
abbrev s_Table_is_call : Stmt := inClass (top 15) 4
abbrev N_Table_is_call : List Str := ["self", "value", "one"]
theorem sc_Table_is_call : FnScope N_Table_is_call ["self", "value"] (defScope s_Table_is_call) := ⟨rfl, rfl, rfl, by decide +kernel, rfl, by decide +kernel, by decide +kernel⟩
abbrev s_Table_shifted : Stmt := inClass (top 15) 5
abbrev N_Table_shifted : List Str := ["self", "seat", "call", "factor", "place", "one", "size"]
theorem sc_Table_shifted : FnScope N_Table_shifted ["self", "seat", "call", "factor"] (defScope s_Table_shifted) := ⟨rfl, rfl, rfl, by decide +kernel, rfl, by decide +kernel, by decide +kernel⟩
abbrev s_Table_moves : Stmt := inClass (top 15) 6
abbrev N_Table_moves : List Str := ["self", "seat", "call"]
theorem sc_Table_moves : FnScope N_Table_moves ["self", "seat", "call"] (defScope s_Table_moves) := ⟨rfl, rfl, rfl, by decide +kernel, rfl, by decide +kernel, by decide +kernel⟩
abbrev s_Table_step : Stmt := inClass (top 15) 7
abbrev N_Table_step : List Str := ["self", "seat", "call", "direction", "both_seats"]
theorem sc_Table_step : FnScope N_Table_step ["self", "seat", "call", "direction"] (defScope s_Table_step) := ⟨rfl, rfl, rfl, by decide +kernel, rfl, by decide +kernel, by decide +kernel⟩
abbrev s_Table_order : Stmt := inClass (top 15) 8
abbrev N_Table_order : List Str := ["self", "seat"]
theorem sc_Table_order : FnScope N_Table_order ["self", "seat"] (defScope s_Table_order) := ⟨rfl, rfl, rfl, by decide +kernel, rfl, by decide +kernel, by decide +kernel⟩
abbrev s_Table_halves : Stmt := inClass (top 15) 9
abbrev N_Table_halves : List Str := ["self", "seat"]
theorem sc_Table_halves : FnScope N_Table_halves ["self", "seat"] (defScope s_Table_halves) := ⟨rfl, rfl, rfl, by decide +kernel, rfl, by decide +kernel, by decide +kernel⟩
abbrev s_is_direction : Stmt := top 16
abbrev N_is_direction : List Str := ["value"]
theorem sc_is_direction : FnScope N_is_direction ["value"] (defScope s_is_direction) := ⟨rfl, rfl, rfl, by decide +kernel, rfl, by decide +kernel, by decide +kernel⟩
abbrev s_require_table : Stmt := top 17
abbrev N_require_table : List Str := ["table"]
theorem sc_require_table : FnScope N_require_table ["table"] (defScope s_require_table) := ⟨rfl, rfl, rfl, by decide +kernel, rfl, by decide +kernel, by decide +kernel⟩
abbrev s_require_seat : Stmt := top 18
abbrev N_require_seat : List Str := ["table", "seat"]
theorem sc_require_seat : FnScope N_require_seat ["table", "seat"] (defScope s_require_seat) := ⟨rfl, rfl, rfl, by decide +kernel, rfl, by decide +kernel, by decide +kernel⟩
abbrev s_require_call : Stmt := top 19
abbrev N_require_call : List Str := ["table", "call"]
theorem sc_require_call : FnScope N_require_call ["table", "call"] (defScope s_require_call) := ⟨rfl, rfl, rfl, by decide +kernel, rfl, by decide +kernel, by decide +kernel⟩
abbrev s_require_targets : Stmt := top 20
abbrev N_require_targets : List Str := ["table", "targets", "seen", "index", "seat"]
theorem sc_require_targets : FnScope N_require_targets ["table", "targets"] (defScope s_require_targets) := ⟨rfl, rfl, rfl, by decide +kernel, rfl, by decide +kernel, by decide +kernel⟩
abbrev s_entry_depth : Stmt := top 22
abbrev N_entry_depth : List Str := ["table", "depths", "entry", "seat", "call", "both", "one"]
theorem sc_entry_depth : FnScope N_entry_depth ["table", "depths", "entry"] (defScope s_entry_depth) := ⟨rfl, rfl, rfl, by decide +kernel, rfl, by decide +kernel, by decide +kernel⟩
abbrev s_plan_depths : Stmt := top 23
abbrev N_plan_depths : List Str := ["table", "targets", "plan", "depths", "found", "index", "entry", "depth", "target"]
theorem sc_plan_depths : FnScope N_plan_depths ["table", "targets", "plan"] (defScope s_plan_depths) := ⟨rfl, rfl, rfl, by decide +kernel, rfl, by decide +kernel, by decide +kernel⟩
abbrev s_check_plan : Stmt := top 24
abbrev N_check_plan : List Str := ["table", "targets", "plan"]
theorem sc_check_plan : FnScope N_check_plan ["table", "targets", "plan"] (defScope s_check_plan) := ⟨rfl, rfl, rfl, by decide +kernel, rfl, by decide +kernel, by decide +kernel⟩
abbrev s_law_mix : Stmt := top 26
abbrev N_law_mix : List Str := ["_law_cell", "_law_turn", "_law_low"]
theorem sc_law_mix : FnScope N_law_mix ["_law_cell", "_law_turn"] (defScope s_law_mix) := ⟨rfl, rfl, rfl, by decide +kernel, rfl, by decide +kernel, by decide +kernel⟩
abbrev s_law_source : Stmt := top 27
abbrev N_law_source : List Str := ["_law_cell"]
theorem sc_law_source : FnScope N_law_source ["_law_cell"] (defScope s_law_source) := ⟨rfl, rfl, rfl, by decide +kernel, rfl, by decide +kernel, by decide +kernel⟩
abbrev s_law_draw : Stmt := top 28
abbrev N_law_draw : List Str := ["_law_source_here", "_law_limit", "_law_digit"]
theorem sc_law_draw : FnScope N_law_draw ["_law_source_here", "_law_limit"] (defScope s_law_draw) := ⟨rfl, rfl, rfl, by decide +kernel, rfl, by decide +kernel, by decide +kernel⟩
abbrev s_law_rings : Stmt := top 29
abbrev N_law_rings : List Str := ["_law_source_here", "_law_high", "_law_found", "_law_room", "_law_index", "_law_size"]
theorem sc_law_rings : FnScope N_law_rings ["_law_source_here", "_law_high"] (defScope s_law_rings) := ⟨rfl, rfl, rfl, by decide +kernel, rfl, by decide +kernel, by decide +kernel⟩
abbrev s_law_both : Stmt := top 30
abbrev N_law_both : List Str := ["_law_rings_here", "_law_spot", "_law_call", "_law_ahead", "_law_behind", "_law_place", "_law_one", "_law_size"]
theorem sc_law_both : FnScope N_law_both ["_law_rings_here", "_law_spot", "_law_call"] (defScope s_law_both) := ⟨rfl, rfl, rfl, by decide +kernel, rfl, by decide +kernel, by decide +kernel⟩
abbrev s_law_is_spot : Stmt := top 31
abbrev N_law_is_spot : List Str := ["_law_rings_here", "_law_thing", "_law_place", "_law_size"]
theorem sc_law_is_spot : FnScope N_law_is_spot ["_law_rings_here", "_law_thing"] (defScope s_law_is_spot) := ⟨rfl, rfl, rfl, by decide +kernel, rfl, by decide +kernel, by decide +kernel⟩
abbrev s_law_is_call : Stmt := top 32
abbrev N_law_is_call : List Str := ["_law_rings_here", "_law_thing", "_law_one"]
theorem sc_law_is_call : FnScope N_law_is_call ["_law_rings_here", "_law_thing"] (defScope s_law_is_call) := ⟨rfl, rfl, rfl, by decide +kernel, rfl, by decide +kernel, by decide +kernel⟩
abbrev s_law_middles : Stmt := top 33
abbrev N_law_middles : List Str := ["_law_rings_here", "_law_first", "_law_second", "_law_found", "_law_one", "_law_other", "_law_size", "_law_total", "_law_some", "_law_twice", "_law_longer", "_law_start", "_law_place"]
theorem sc_law_middles : FnScope N_law_middles ["_law_rings_here", "_law_first", "_law_second"] (defScope s_law_middles) := ⟨rfl, rfl, rfl, by decide +kernel, rfl, by decide +kernel, by decide +kernel⟩
abbrev s_law_plan : Stmt := top 34
abbrev N_law_plan : List Str := ["_law_source_here", "_law_rings_here", "_law_goals_here", "_law_known", "_law_entries", "_law_index", "_law_first", "_law_second", "_law_some", "_law_spot", "_law_factor", "_law_call", "_law_k", "_law_one", "_law_place", "_law_size"]
theorem sc_law_plan : FnScope N_law_plan ["_law_source_here", "_law_rings_here", "_law_goals_here"] (defScope s_law_plan) := ⟨rfl, rfl, rfl, by decide +kernel, rfl, by decide +kernel, by decide +kernel⟩
abbrev s_law_due : Stmt := top 35
abbrev N_law_due : List Str := ["_law_rings_here", "_law_goals_here", "_law_entries", "_law_depths", "_law_found", "_law_index", "_law_entry", "_law_pair", "_law_goal"]
theorem sc_law_due : FnScope N_law_due ["_law_rings_here", "_law_goals_here", "_law_entries"] (defScope s_law_due) := ⟨rfl, rfl, rfl, by decide +kernel, rfl, by decide +kernel, by decide +kernel⟩
abbrev s_law_said : Stmt := top 36
abbrev N_law_said : List Str := ["_law_ask", "e"]
theorem sc_law_said : FnScope N_law_said ["_law_ask"] (defScope s_law_said) := ⟨rfl, rfl, rfl, by decide +kernel, rfl, by decide +kernel, by decide +kernel⟩
abbrev s_law_changed : Stmt := top 37
abbrev N_law_changed : List Str := ["_law_source_here", "_law_rings_here", "_law_goals_here", "_law_entries", "_law_goal", "_law_odd", "_law_index", "_law_entry", "_law_head", "_law_tail", "_law_spot", "_law_call", "_law_up", "_law_others", "_law_fresh", "_law_some", "_law_place", "_law_size"]
theorem sc_law_changed : FnScope N_law_changed ["_law_source_here", "_law_rings_here", "_law_goals_here", "_law_entries"] (defScope s_law_changed) := ⟨rfl, rfl, rfl, by decide +kernel, rfl, by decide +kernel, by decide +kernel⟩
abbrev s_law_goals : Stmt := top 38
abbrev N_law_goals : List Str := ["_law_source_here", "_law_rings_here", "_law_found", "_law_index", "_law_spot", "_law_size"]
theorem sc_law_goals : FnScope N_law_goals ["_law_source_here", "_law_rings_here"] (defScope s_law_goals) := ⟨rfl, rfl, rfl, by decide +kernel, rfl, by decide +kernel, by decide +kernel⟩
abbrev s_law_is_right : Stmt := top 39
abbrev N_law_is_right : List Str := ["_law_source_here", "_law_rings_here", "_law_goals_here", "_law_good", "_law_grid", "_law_turn", "_law_entries", "_law_k", "_law_due_here", "_law_copy", "_law_told", "_law_checked", "_law_again", "_law_size"]
theorem sc_law_is_right : FnScope N_law_is_right ["_law_source_here"] (defScope s_law_is_right) := ⟨rfl, rfl, rfl, by decide +kernel, rfl, by decide +kernel, by decide +kernel⟩
abbrev s_law : Stmt := top 40
abbrev N_law : List Str := ["_law_script", "_law_cell"]
theorem sc_law : FnScope N_law ["_law_script"] (defScope s_law) := ⟨rfl, rfl, rfl, by decide +kernel, rfl, by decide +kernel, by decide +kernel⟩
/-- what the top has written -/
structure TX (K : PySem.W.Frag) (mg : Str → Option Value) where
  C_InvalidSeat : Addr
  m_InvalidSeat : mg "InvalidSeat" = some (.ref C_InvalidSeat)
  C_InvalidTargets : Addr
  m_InvalidTargets : mg "InvalidTargets" = some (.ref C_InvalidTargets)
  f_wall : Addr
  fd_wall : FuncData
  F_wall : Fun K "_wall" "_wall" s_wall f_wall fd_wall
  b_wall : Binds K fd_wall ["k"] []
  m_wall : mg "_wall" = some (.ref f_wall)
  f_InvalidWitness_init : Addr
  fd_InvalidWitness_init : FuncData
  F_InvalidWitness_init : Fun K "__init__" "InvalidWitness.__init__" s_InvalidWitness_init f_InvalidWitness_init fd_InvalidWitness_init
  b_InvalidWitness_init : Binds K fd_InvalidWitness_init ["self", "index"] []
  f_is_integer : Addr
  fd_is_integer : FuncData
  F_is_integer : Fun K "is_integer" "is_integer" s_is_integer f_is_integer fd_is_integer
  b_is_integer : Binds K fd_is_integer ["value"] []
  m_is_integer : mg "is_integer" = some (.ref f_is_integer)
  f_is_at_least : Addr
  fd_is_at_least : FuncData
  F_is_at_least : Fun K "is_at_least" "is_at_least" s_is_at_least f_is_at_least fd_is_at_least
  b_is_at_least : Binds K fd_is_at_least ["value", "low"] []
  m_is_at_least : mg "is_at_least" = some (.ref f_is_at_least)
  f_is_between : Addr
  fd_is_between : FuncData
  F_is_between : Fun K "is_between" "is_between" s_is_between f_is_between fd_is_between
  b_is_between : Binds K fd_is_between ["value", "low", "high"] []
  m_is_between : mg "is_between" = some (.ref f_is_between)
  f_Table_init : Addr
  fd_Table_init : FuncData
  F_Table_init : Fun K "__init__" "Table.__init__" s_Table_init f_Table_init fd_Table_init
  b_Table_init : Binds K fd_Table_init ["self", "rings"] []
  f_Table_sizes : Addr
  fd_Table_sizes : FuncData
  F_Table_sizes : Fun K "sizes" "Table.sizes" s_Table_sizes f_Table_sizes fd_Table_sizes
  b_Table_sizes : Binds K fd_Table_sizes ["self"] []
  f_Table_count : Addr
  fd_Table_count : FuncData
  F_Table_count : Fun K "count" "Table.count" s_Table_count f_Table_count fd_Table_count
  b_Table_count : Binds K fd_Table_count ["self"] []
  f_Table_is_seat : Addr
  fd_Table_is_seat : FuncData
  F_Table_is_seat : Fun K "is_seat" "Table.is_seat" s_Table_is_seat f_Table_is_seat fd_Table_is_seat
  b_Table_is_seat : Binds K fd_Table_is_seat ["self", "value"] []
  f_Table_is_call : Addr
  fd_Table_is_call : FuncData
  F_Table_is_call : Fun K "is_call" "Table.is_call" s_Table_is_call f_Table_is_call fd_Table_is_call
  b_Table_is_call : Binds K fd_Table_is_call ["self", "value"] []
  f_Table_shifted : Addr
  fd_Table_shifted : FuncData
  F_Table_shifted : Fun K "shifted" "Table.shifted" s_Table_shifted f_Table_shifted fd_Table_shifted
  b_Table_shifted : Binds K fd_Table_shifted ["self", "seat", "call", "factor"] []
  f_Table_moves : Addr
  fd_Table_moves : FuncData
  F_Table_moves : Fun K "moves" "Table.moves" s_Table_moves f_Table_moves fd_Table_moves
  b_Table_moves : Binds K fd_Table_moves ["self", "seat", "call"] []
  f_Table_step : Addr
  fd_Table_step : FuncData
  F_Table_step : Fun K "step" "Table.step" s_Table_step f_Table_step fd_Table_step
  b_Table_step : Binds K fd_Table_step ["self", "seat", "call", "direction"] []
  f_Table_order : Addr
  fd_Table_order : FuncData
  F_Table_order : Fun K "order" "Table.order" s_Table_order f_Table_order fd_Table_order
  b_Table_order : Binds K fd_Table_order ["self", "seat"] []
  f_Table_halves : Addr
  fd_Table_halves : FuncData
  F_Table_halves : Fun K "halves" "Table.halves" s_Table_halves f_Table_halves fd_Table_halves
  b_Table_halves : Binds K fd_Table_halves ["self", "seat"] []
  f_is_direction : Addr
  fd_is_direction : FuncData
  F_is_direction : Fun K "is_direction" "is_direction" s_is_direction f_is_direction fd_is_direction
  b_is_direction : Binds K fd_is_direction ["value"] []
  m_is_direction : mg "is_direction" = some (.ref f_is_direction)
  f_require_table : Addr
  fd_require_table : FuncData
  F_require_table : Fun K "require_table" "require_table" s_require_table f_require_table fd_require_table
  b_require_table : Binds K fd_require_table ["table"] []
  m_require_table : mg "require_table" = some (.ref f_require_table)
  f_require_seat : Addr
  fd_require_seat : FuncData
  F_require_seat : Fun K "require_seat" "require_seat" s_require_seat f_require_seat fd_require_seat
  b_require_seat : Binds K fd_require_seat ["table", "seat"] []
  m_require_seat : mg "require_seat" = some (.ref f_require_seat)
  f_require_call : Addr
  fd_require_call : FuncData
  F_require_call : Fun K "require_call" "require_call" s_require_call f_require_call fd_require_call
  b_require_call : Binds K fd_require_call ["table", "call"] []
  m_require_call : mg "require_call" = some (.ref f_require_call)
  f_require_targets : Addr
  fd_require_targets : FuncData
  F_require_targets : Fun K "require_targets" "require_targets" s_require_targets f_require_targets fd_require_targets
  b_require_targets : Binds K fd_require_targets ["table", "targets"] []
  m_require_targets : mg "require_targets" = some (.ref f_require_targets)
  f_entry_depth : Addr
  fd_entry_depth : FuncData
  F_entry_depth : Fun K "entry_depth" "entry_depth" s_entry_depth f_entry_depth fd_entry_depth
  b_entry_depth : Binds K fd_entry_depth ["table", "depths", "entry"] []
  m_entry_depth : mg "entry_depth" = some (.ref f_entry_depth)
  f_plan_depths : Addr
  fd_plan_depths : FuncData
  F_plan_depths : Fun K "plan_depths" "plan_depths" s_plan_depths f_plan_depths fd_plan_depths
  b_plan_depths : Binds K fd_plan_depths ["table", "targets", "plan"] []
  m_plan_depths : mg "plan_depths" = some (.ref f_plan_depths)
  f_check_plan : Addr
  fd_check_plan : FuncData
  F_check_plan : Fun K "check_plan" "check_plan" s_check_plan f_check_plan fd_check_plan
  b_check_plan : Binds K fd_check_plan ["table", "targets", "plan"] []
  m_check_plan : mg "check_plan" = some (.ref f_check_plan)
  f_law_mix : Addr
  fd_law_mix : FuncData
  F_law_mix : Fun K "_law_mix" "_law_mix" s_law_mix f_law_mix fd_law_mix
  b_law_mix : Binds K fd_law_mix ["_law_cell", "_law_turn"] []
  m_law_mix : mg "_law_mix" = some (.ref f_law_mix)
  f_law_source : Addr
  fd_law_source : FuncData
  F_law_source : Fun K "_law_source" "_law_source" s_law_source f_law_source fd_law_source
  b_law_source : Binds K fd_law_source ["_law_cell"] []
  m_law_source : mg "_law_source" = some (.ref f_law_source)
  f_law_draw : Addr
  fd_law_draw : FuncData
  F_law_draw : Fun K "_law_draw" "_law_draw" s_law_draw f_law_draw fd_law_draw
  b_law_draw : Binds K fd_law_draw ["_law_source_here", "_law_limit"] []
  m_law_draw : mg "_law_draw" = some (.ref f_law_draw)
  f_law_rings : Addr
  fd_law_rings : FuncData
  F_law_rings : Fun K "_law_rings" "_law_rings" s_law_rings f_law_rings fd_law_rings
  b_law_rings : Binds K fd_law_rings ["_law_source_here", "_law_high"] []
  m_law_rings : mg "_law_rings" = some (.ref f_law_rings)
  f_law_both : Addr
  fd_law_both : FuncData
  F_law_both : Fun K "_law_both" "_law_both" s_law_both f_law_both fd_law_both
  b_law_both : Binds K fd_law_both ["_law_rings_here", "_law_spot", "_law_call"] []
  m_law_both : mg "_law_both" = some (.ref f_law_both)
  f_law_is_spot : Addr
  fd_law_is_spot : FuncData
  F_law_is_spot : Fun K "_law_is_spot" "_law_is_spot" s_law_is_spot f_law_is_spot fd_law_is_spot
  b_law_is_spot : Binds K fd_law_is_spot ["_law_rings_here", "_law_thing"] []
  m_law_is_spot : mg "_law_is_spot" = some (.ref f_law_is_spot)
  f_law_is_call : Addr
  fd_law_is_call : FuncData
  F_law_is_call : Fun K "_law_is_call" "_law_is_call" s_law_is_call f_law_is_call fd_law_is_call
  b_law_is_call : Binds K fd_law_is_call ["_law_rings_here", "_law_thing"] []
  m_law_is_call : mg "_law_is_call" = some (.ref f_law_is_call)
  f_law_middles : Addr
  fd_law_middles : FuncData
  F_law_middles : Fun K "_law_middles" "_law_middles" s_law_middles f_law_middles fd_law_middles
  b_law_middles : Binds K fd_law_middles ["_law_rings_here", "_law_first", "_law_second"] []
  m_law_middles : mg "_law_middles" = some (.ref f_law_middles)
  f_law_plan : Addr
  fd_law_plan : FuncData
  F_law_plan : Fun K "_law_plan" "_law_plan" s_law_plan f_law_plan fd_law_plan
  b_law_plan : Binds K fd_law_plan ["_law_source_here", "_law_rings_here", "_law_goals_here"] []
  m_law_plan : mg "_law_plan" = some (.ref f_law_plan)
  f_law_due : Addr
  fd_law_due : FuncData
  F_law_due : Fun K "_law_due" "_law_due" s_law_due f_law_due fd_law_due
  b_law_due : Binds K fd_law_due ["_law_rings_here", "_law_goals_here", "_law_entries"] []
  m_law_due : mg "_law_due" = some (.ref f_law_due)
  f_law_said : Addr
  fd_law_said : FuncData
  F_law_said : Fun K "_law_said" "_law_said" s_law_said f_law_said fd_law_said
  b_law_said : Binds K fd_law_said ["_law_ask"] []
  m_law_said : mg "_law_said" = some (.ref f_law_said)
  f_law_changed : Addr
  fd_law_changed : FuncData
  F_law_changed : Fun K "_law_changed" "_law_changed" s_law_changed f_law_changed fd_law_changed
  b_law_changed : Binds K fd_law_changed ["_law_source_here", "_law_rings_here", "_law_goals_here", "_law_entries"] []
  m_law_changed : mg "_law_changed" = some (.ref f_law_changed)
  f_law_goals : Addr
  fd_law_goals : FuncData
  F_law_goals : Fun K "_law_goals" "_law_goals" s_law_goals f_law_goals fd_law_goals
  b_law_goals : Binds K fd_law_goals ["_law_source_here", "_law_rings_here"] []
  m_law_goals : mg "_law_goals" = some (.ref f_law_goals)
  f_law_is_right : Addr
  fd_law_is_right : FuncData
  F_law_is_right : Fun K "_law_is_right" "_law_is_right" s_law_is_right f_law_is_right fd_law_is_right
  b_law_is_right : Binds K fd_law_is_right ["_law_source_here"] []
  m_law_is_right : mg "_law_is_right" = some (.ref f_law_is_right)
  f_law : Addr
  fd_law : FuncData
  F_law : Fun K "law" "law" s_law f_law fd_law
  b_law : Binds K fd_law ["_law_script"] []
  m_law : mg "law" = some (.ref f_law)
  C_InvalidWitness : Addr
  m_InvalidWitness : mg "InvalidWitness" = some (.ref C_InvalidWitness)
  ox_InvalidWitness : OexC K C_InvalidWitness
  xf_InvalidWitness : XfC K C_InvalidWitness
  i_InvalidWitness : PySem.W.findIn K (.ref C_InvalidWitness) "__init__" = some (some (.ref f_InvalidWitness_init))
  ti_InvalidWitness : PySem.W.typeIn K (.ref f_InvalidWitness_init) = some (.type "function")
  em_InvalidWitness : PySem.W.exmOne K (.ref C_InvalidWitness) (.ref C_InvalidWitness) = some true
  n_InvalidWitness_index : PySem.W.findIn K (.ref C_InvalidWitness) "index" = some none
  C_Table : Addr
  cl_Table : Cls K C_Table
  m_Table : mg "Table" = some (.ref C_Table)
  M_Table : Mk K C_Table f_Table_init
  me_Table_sizes : Meth K C_Table "sizes" f_Table_sizes
  me_Table_count : Meth K C_Table "count" f_Table_count
  me_Table_is_seat : Meth K C_Table "is_seat" f_Table_is_seat
  me_Table_is_call : Meth K C_Table "is_call" f_Table_is_call
  me_Table_shifted : Meth K C_Table "shifted" f_Table_shifted
  me_Table_moves : Meth K C_Table "moves" f_Table_moves
  me_Table_step : Meth K C_Table "step" f_Table_step
  me_Table_order : Meth K C_Table "order" f_Table_order
  me_Table_halves : Meth K C_Table "halves" f_Table_halves
  n_Table_rings : NoAttr K C_Table "rings"
  ic_Table : PySem.W.findIn K (.ref C_Table) "__class__" = some (some (.builtin "object.__class__"))
  im_Table : PySem.W.mroIn K C_Table (.type "object") = some true
  ig_ : PySem.W.specialIn K (.builtin "object.__class__") "__get__" = some (some (.builtin "getset_descriptor.__get__"))
  it_ : PySem.W.takesIn K (.builtin "object.__class__") = some true
  xi_InvalidWitness : CG.ExcI K C_InvalidWitness
  ki_InvalidWitness : PySem.W.kitAny K (.ref C_InvalidWitness) [.ref C_InvalidSeat, .ref C_InvalidTargets] = some false
  t_MAX_RINGS : Tok
  c_MAX_RINGS : mg "MAX_RINGS" = some (.int 4 t_MAX_RINGS)
  z_abs : mg "abs" = none
  z_all : mg "all" = none
  z_bool : mg "bool" = none
  z_dict : mg "dict" = none
  z_enumerate : mg "enumerate" = none
  z_int : mg "int" = none
  z_isinstance : mg "isinstance" = none
  z_len : mg "len" = none
  z_list : mg "list" = none
  z_max : mg "max" = none
  z_min : mg "min" = none
  z_range : mg "range" = none
  z_repr : mg "repr" = none
  z_str : mg "str" = none
  z_tuple : mg "tuple" = none
  z_zip : mg "zip" = none
/-- the code objects and tables of the defs that make lambdas -/
structure TL {K : PySem.W.Frag} {mg : Str → Option Value} (T : TX K mg) (base : Heap) where
  c_law_is_right : Addr
  p_law_is_right : Addr
  at_law_is_right : T.fd_law_is_right.code = .ref c_law_is_right
  tb_law_is_right : LamX.TabB base mg c_law_is_right p_law_is_right
/-- not an int (a bool is none) -/
def NotI (K : PySem.W.Frag) (H : Hp) (x : V) : Prop := ∃ t b1 b2, TyX K H x t ∧ PySem.W.kitOne K t (.type "int") = some b1 ∧ PySem.W.kitOne K t (.type "bool") = some b2 ∧ (b1 && !b2) = false
/-- what x is, if an int -/
def IsI (K : PySem.W.Frag) (H : Hp) (x : V) : Option Int → Prop
  | some i => x = .int i
  | none => NotI K H x
def atLeast : Option Int → Int → Bool
  | some i, low => decide (low ≤ i)
  | none, _ => false
def between : Option Int → Int → Int → Bool
  | some i, low, high => decide (low ≤ i) && decide (i ≤ high)
  | none, _, _ => false

section
variable {P : Program} {w : World} {K : PySem.W.Frag} {mg : Str → Option Value} {base : Heap}
def sp_is_integer (K : PySem.W.Frag) : Sp := fun vs H Q _ => ∃ x o, vs = [x] ∧ IsI K H x o ∧ Q (.bl o.isSome) H
theorem ok_is_integer (T : TX K mg) : FnOk P w K mg base CX0 1 T.f_is_integer T.fd_is_integer ["value"] (sp_is_integer K) := by
  refine T.F_is_integer.ok sc_is_integer (fun vs H Q E h => ?_) (fun cdv A outer s H vs Q E hr h => ?_)
  · obtain ⟨x, o, rfl, _⟩ := h
    rfl
  · obtain ⟨x, o, rfl, hx, k⟩ := h
    refine ⟨_, (pss_one (ps_ret (pe_and (pe_callB call_isi (by rfl) T.z_isinstance (by decide +kernel) (pa_cons (pv 0) (pa_cons (pe_bltn (v := .ty "int") rfl T.z_int (by decide +kernel) rfl) pa_nil))) (pe_one (pe_not (pe_callB call_isi (by rfl) T.z_isinstance (by decide +kernel) (pa_cons (pv 0) (pa_cons (pe_bltn (v := .ty "bool") rfl T.z_bool (by decide +kernel) rfl) pa_nil)))))))), ?_⟩
    cases o with
    | some i =>
      cases hx
      exact ⟨_, rfl, _, _, _, _, true, rfl, .ty _, .base (.int i), kit_ty (by decide +kernel), _, rfl, _, rfl, _, _, _, _, false, rfl, .ty _, .base (.int i), kit_ty (by decide +kernel), _, rfl, k⟩
    | none =>
      obtain ⟨t, b1, b2, ht, h1, h2, hb⟩ := hx
      refine ⟨_, rfl, _, _, _, _, b1, rfl, .ty _, ht, h1, _, rfl, ?_⟩
      cases b1 with
      | false => exact k
      | true =>
        refine ⟨_, rfl, _, _, _, _, b2, rfl, .ty _, ht, h2, _, rfl, ?_⟩
        have e : (!b2) = false := hb
        rw [e]
        exact k
def sp_is_at_least (K : PySem.W.Frag) : Sp := fun vs H Q _ => ∃ x o low, vs = [x, .int low] ∧ IsI K H x o ∧ Q (.bl (atLeast o low)) H
theorem ok_is_at_least (T : TX K mg) : FnOk P w K mg base CX0 2 T.f_is_at_least T.fd_is_at_least ["value", "low"] (sp_is_at_least K) := by
  refine T.F_is_at_least.ok sc_is_at_least (fun vs H Q E h => ?_) (fun cdv A outer s H vs Q E hr h => ?_)
  · obtain ⟨x, o, low, rfl, _⟩ := h
    rfl
  · obtain ⟨x, o, low, rfl, hx, k⟩ := h
    refine ⟨_, (pss_one (ps_ret (pe_and (pe_call (ok_is_integer T) hr rfl T.m_is_integer T.F_is_integer.kp T.b_is_integer .nil pass0 (pa_cons (pv 0) pa_nil)) (pe_one (pe_cmpR op_ge (pv 0) (pv 1) (nomark _)))))), ?_⟩
    refine ⟨_, rfl, x, o, rfl, hx, _, rfl, ?_⟩
    cases o with
    | none => exact k
    | some i =>
      cases hx
      exact ⟨_, rfl, _, rfl, _, _, rfl, rfl, k⟩
def sp_is_between (K : PySem.W.Frag) : Sp := fun vs H Q _ => ∃ x o low high, vs = [x, .int low, .int high] ∧ IsI K H x o ∧ Q (.bl (between o low high)) H
theorem ok_is_between (T : TX K mg) : FnOk P w K mg base CX0 2 T.f_is_between T.fd_is_between ["value", "low", "high"] (sp_is_between K) := by
  refine T.F_is_between.ok sc_is_between (fun vs H Q E h => ?_) (fun cdv A outer s H vs Q E hr h => ?_)
  · obtain ⟨x, o, low, high, rfl, _⟩ := h
    rfl
  · obtain ⟨x, o, low, high, rfl, hx, k⟩ := h
    refine ⟨_, (pss_one (ps_ret (pe_and (pe_call (ok_is_integer T) hr rfl T.m_is_integer T.F_is_integer.kp T.b_is_integer .nil pass0 (pa_cons (pv 0) pa_nil)) (pe_one (pe_chain op_le op_le (pv 1) (pv 0) (pv 2)))))), ?_⟩
    refine ⟨_, rfl, x, o, rfl, hx, _, rfl, ?_⟩
    cases o with
    | none => exact k
    | some i =>
      cases hx
      refine ⟨_, rfl, _, rfl, _, _, rfl, rfl, _, rfl, ?_⟩
      refine ite2 (fun c => ?_) (fun c => ?_)
      · have c1 : low ≤ i := of_decide_eq_true c
        refine ⟨_, rfl, _, _, rfl, rfl, ?_⟩
        have e : between (some i) low high = decide (i ≤ high) := by show (decide (low ≤ i) && decide (i ≤ high)) = _; rw [c]; rfl
        rw [e] at k
        exact k
      · have e : between (some i) low high = false := by show (decide (low ≤ i) && decide (i ≤ high)) = _; rw [Bool.eq_false_iff.mpr c]; rfl
        rw [e] at k
        exact k
end

/-- a table of these sizes stands at a -/
def TabAt (C : Addr) (H : Hp) (a : Addr) (ns : List Int) : Prop := ∃ dx t, H a = some (.ins C dx [("rings", .ref t)]) ∧ H t = some (.tup (ns.map V.int))
theorem TabAt.mono {C : Addr} {H H2 : Hp} {a : Addr} {ns : List Int} (e : Ex H H2) (h : TabAt C H a ns) : TabAt C H2 a ns := by
  obtain ⟨dx, t, h1, h2⟩ := h
  exact ⟨dx, t, e _ _ h1, e _ _ h2⟩
/-- a tracked list (false) or tuple (true) -/
def SqH (H : Hp) (p : Bool × Addr) (xs : List V) : Prop := if p.1 = true then H p.2 = some (.tup xs) else H p.2 = some (.lst xs)
theorem SqH.sq {K : PySem.W.Frag} {H : Hp} {p : Bool × Addr} {xs : List V} (h : SqH H p xs) : CZ.SqK K H p xs := by
  obtain ⟨b, a⟩ := p
  cases b
  · exact SqL.of (show H a = some (.lst xs) from h)
  · exact SqT.of (show H a = some (.tup xs) from h)
theorem SqH.mono {H H2 : Hp} {p : Bool × Addr} {xs : List V} (e : Ex H H2) (h : SqH H p xs) : SqH H2 p xs := by
  obtain ⟨b, a⟩ := p
  cases b
  · exact e _ _ (show H a = some (.lst xs) from h)
  · exact e _ _ (show H a = some (.tup xs) from h)
theorem SqH.ty {K : PySem.W.Frag} {H : Hp} {p : Bool × Addr} {xs : List V} (h : SqH H p xs) : TyX K H (.ref p.2) (.type (if p.1 = true then "tuple" else "list")) := by
  obtain ⟨b, a⟩ := p
  cases b
  · exact .base (.lst (show H a = some (.lst xs) from h))
  · exact .base (.tup (show H a = some (.tup xs) from h))
/-- sizes of a table -/
structure SzOk (ns : List Int) : Prop where
  pos : ns ≠ []
  le : ns.length ≤ 4
  one : ∀ n ∈ ns, 1 ≤ n
theorem len_line {α : Type} {l : List α} (h : l.length ≤ 4) : l.length ≤ sizeLine := Nat.le_trans h (by decide)
theorem take_lt {α : Type} {l : List α} (h : l.length ≤ 1000) (i : Nat) : (l.take i).length < sizeLine := by
  rw [List.length_take]
  exact Nat.lt_of_le_of_lt (Nat.le_trans (Nat.min_le_right _ _) h) (by decide)
theorem take_more {α : Type} {l : List α} {i : Nat} {x : α} (h : l[i]? = some x) : l.take (i + 1) = l.take i ++ [x] := by
  rw [List.take_add_one, h]
  rfl
theorem kit_seq {K : PySem.W.Frag} (b : Bool) : PySem.W.kitAny K (.type (if b = true then "tuple" else "list")) [.type "list", .type "tuple"] = some true := by
  cases b
  · exact kitAny_cons (b := true) (kit_ty (by decide +kernel)) (fun h => nomatch h) (fun _ => rfl)
  · exact kitAny_cons (b := false) (kit_ty (by decide +kernel)) (fun _ => kitAny_cons (b := true) (kit_ty (by decide +kernel)) (fun h => nomatch h) (fun _ => rfl)) (fun h => nomatch h)
theorem sq_or {K : PySem.W.Frag} {H : Hp} {b : Bool} {a : Addr} {xs : List V} (h : SqH H (b, a) xs) : SqL K H a xs ∨ SqT K H a xs := by
  cases b
  · exact .inl (SqL.of (show H a = some (.lst xs) from h))
  · exact .inr (SqT.of (show H a = some (.tup xs) from h))
section
variable {P : Program} {w : World} {K : PySem.W.Frag} {mg : Str → Option Value} {base : Heap}
def sp_Table_init (C : Addr) : Sp := fun vs H Q _ => ∃ (p dx : Addr) (q : Bool × Addr) (ns : List Int), vs = [.ref p, .ref q.2] ∧ H p = some (.ins C dx []) ∧ SqH H q (ns.map V.int) ∧ SzOk ns ∧
  ∀ H2, (∀ c o, c ≠ p → H c = some o → H2 c = some o) → (∃ t, H2 p = some (.ins C dx [("rings", .ref t)]) ∧ H2 t = some (.tup (ns.map V.int))) → Q .non H2
theorem ok_Table_init (T : TX K mg) : FnOk P w K mg base CX0 3 T.f_Table_init T.fd_Table_init ["self", "rings"] (sp_Table_init T.C_Table) := by
  refine T.F_Table_init.ok sc_Table_init (fun vs H Q E h => ?_) (fun cdv A outer s H vs Q E hr h => ?_)
  · obtain ⟨p, dx, q, ns, rfl, _⟩ := h
    rfl
  · obtain ⟨p, dx, ⟨b, a⟩, ns, rfl, hp, hq, ok, k⟩ := h
    refine ⟨_, (pss_cons (ps_if (PW.pt (pw_or (pt_not (pt_val (pe_callB call_isiT (by rfl) T.z_isinstance (by decide +kernel) (pa_cons (pv 1) (pa_cons (pe_tup (pa_cons (pe_bltn (v := .ty "list") rfl T.z_list (by decide +kernel) rfl) (pa_cons (pe_bltn (v := .ty "tuple") rfl T.z_tuple (by decide +kernel) rfl) pa_nil))) pa_nil))))) (pw_or1 (pt_not (pt_chain op_le op_le pe_int (pe_callB call_len_seq (by rfl) T.z_len (by decide +kernel) (pa_cons (pv 1) pa_nil)) (pe_glob (v := .int 4) rfl T.c_MAX_RINGS ⟨_, rfl⟩)))))) pss_never pss_nil) (pss_cons (ps_if (pt_not (pt_val (pe_callB (cr_all rfl) (by rfl) T.z_all (by decide +kernel) (pa_cons (pe_lc (own := [("size", 2)]) (g := (gName 2)) rfl sc_Table_init.nd (pi_seq (pv 1)) (blkOk_by (N := N_Table_init) (sc := defScope s_Table_init) (by decide +kernel)) (fun _ _ _ _ _ => (pg_name (i := 2) sc_Table_init.nd rfl (Or.inl rfl))) (fun _ _ _ _ _ => pts_nil) (fun _ _ _ _ _ => (pe_call (ok_is_at_least T) hr rfl T.m_is_at_least T.F_is_at_least.kp T.b_is_at_least .nil pass0 (pa_cons (pv 2) (pa_cons pe_int pa_nil))))) pa_nil)))) pss_never pss_nil) (pss_one (ps_fld (pv 0) (pe_callTy call_tuple_of (by rfl) T.z_tuple (by decide +kernel) (pa_cons (pv 1) pa_nil)) rfl)))), ?_⟩
    refine ⟨_, rfl, by show 2 ≤ sizeLine; decide, fun y hy => ?_⟩
    refine ⟨_, y, _, _, _, true, rfl, upd_same, .cons (.ty _) (.cons (.ty _) .nil), (hq.mono (exn hy)).ty, kit_seq b, _, rfl, iteF ?_⟩
    have q1 := hq.mono (exn (o := .tup [.ty "list", .ty "tuple"]) hy)
    have lp : 1 ≤ ns.length := List.length_pos_iff.mpr ok.pos
    have l4 := ok.le
    refine ⟨_, rfl, a, _, rfl, sq_or q1, _, _, rfl, rfl, _, rfl, itt (decide_eq_true (by rw [List.length_map]; omega)) ?_⟩
    refine ⟨_, _, rfl, rfl, _, rfl, itf ?_ ?_⟩
    · rw [List.length_map, decide_eq_true (by omega)]
      rfl
    · have all1 : (ns.map fun n => atLeast (some n) 1).all id = true := by
        rw [List.all_map, List.all_eq_true]
        exact fun n hn => decide_eq_true (ok.one n hn)
      refine ⟨_, rfl, (b, a), rfl, ⟨_, q1.sq⟩, fun D hD => ?_⟩
      refine lc_vals walk_seq ((ns.map fun n => atLeast (some n) 1).map V.bl) (by simp) (by rw [List.length_map]; omega) hD (fun H3 e => (q1.mono e).sq) ?_ gmono_name ?_
      · intro i x H3 H4 R hi e yy kk
        obtain ⟨rfl, hx⟩ := yy
        obtain ⟨n, hn, rfl⟩ := map_get hx
        exact ⟨rfl, _, rfl, _, some n, 1, rfl, rfl, kk _ _ exr (by simp [hn])⟩
      · intro H3 e hD3
        have hp3 := e _ _ (exn hy _ _ hp)
        have q3 := q1.mono e
        have ex3 : Ex H H3 := fun c o z => e _ _ (exn hy _ _ z)
        refine ⟨D, _, rfl, SqL.of hD3, _, rfl, itf (by rw [all1]; rfl) ?_⟩
        cases b with
        | false =>
          refine ⟨_, rfl, a, _, rfl, .inl ⟨SqL.of q3, fun l hl => ?_⟩⟩
          have npl : p ≠ l := ne_of_none hp3 hl
          refine ⟨_, rfl, p, _, dx, _, rfl, (by rw [upd_ne npl]; exact hp3), T.cl_Table, T.n_Table_rings, (by show 0 < 1000; decide), ?_⟩
          refine k _ (fun c o hc z => ?_) ⟨l, upd_same, by rw [upd_ne npl.symm, upd_same]⟩
          rw [upd_ne hc, upd_ne (ne_of_none (ex3 c o z) hl)]
          exact ex3 c o z
        | true =>
          refine ⟨_, rfl, a, _, rfl, .inr ⟨SqT.of q3, ?_⟩⟩
          refine ⟨_, rfl, p, _, dx, _, rfl, hp3, T.cl_Table, T.n_Table_rings, (by show 0 < 1000; decide), ?_⟩
          have q3 : H3 a = some (.tup (ns.map V.int)) := q3
          refine k _ (fun c o hc z => ?_) ⟨a, upd_same, by rw [upd_ne (ne_of q3 hp3 (by intro z; cases z))]; exact q3⟩
          rw [upd_ne hc]
          exact ex3 c o z
end

theorem TyX.mono {K : PySem.W.Frag} {H H2 : Hp} {x : V} {t : Value} (e : Ex H H2) (h : TyX K H x t) : TyX K H2 x t := by
  cases h with
  | base h =>
    cases h with
    | non => exact .base .non
    | bl x => exact .base (.bl x)
    | int x => exact .base (.int x)
    | str x => exact .base (.str x)
    | flt x => exact .base (.flt x)
    | lst h => exact .base (.lst (e _ _ h))
    | frz h => exact .base (.frz (e _ _ h))
    | tup h => exact .base (.tup (e _ _ h))
    | dK h => exact .base (.dK (e _ _ h))
    | dT h => exact .base (.dT (e _ _ h))
    | ins h a b c d f => exact .base (.ins (e _ _ h) a b c d f)
  | byt b => exact .byt b
  | set h => exact .set (e _ _ h)
  | kList a b => exact .kList a b
  | kTuple a b => exact .kTuple a b
  | kDict a b => exact .kDict a b
  | fTuple h => exact .fTuple (e _ _ h)
  | fDict h => exact .fDict (e _ _ h)
theorem IsI.mono {K : PySem.W.Frag} {H H2 : Hp} {x : V} {o : Option Int} (e : Ex H H2) (h : IsI K H x o) : IsI K H2 x o := by
  cases o with
  | some i => exact h
  | none =>
    obtain ⟨t, b1, b2, ht, r⟩ := h
    exact ⟨t, b1, b2, TyX.mono e ht, r⟩
theorem paired_get {α β : Type} {R : α → β → Prop} : ∀ {l : List α} {m : List β} {i : Nat} {x : α}, Paired R l m → l[i]? = some x → ∃ y, m[i]? = some y ∧ R x y
  | _, _, _, _, .nil, h => by simp at h
  | _, _, 0, _, .cons r _, h => by simp at h; subst h; exact ⟨_, rfl, r⟩
  | _, _, i + 1, x, .cons _ t, h => by
    obtain ⟨y, h1, h2⟩ := paired_get (i := i) (x := x) t (by simpa using h)
    exact ⟨y, by simpa using h1, h2⟩
/-- what an argument is as a tuple: its items, as ints or not -/
def TupA (K : PySem.W.Frag) (H : Hp) (x : V) : Option (List (Option Int)) → Prop
  | some os => ∃ a xs, x = .ref a ∧ H a = some (.tup xs) ∧ xs.length ≤ 1000 ∧ Paired (IsI K H) xs os
  | none => ∃ t, TyX K H x t ∧ PySem.W.kitOne K t (.type "tuple") = some false
theorem paired_ints {K : PySem.W.Frag} {H : Hp} : ∀ ps : List Int, Paired (IsI K H) (ps.map V.int) (ps.map some)
  | [] => .nil
  | p :: ps => .cons rfl (paired_ints ps)
theorem TupA.ints {K : PySem.W.Frag} {H : Hp} {a : Addr} {ps : List Int} (h : H a = some (.tup (ps.map V.int))) (hl : ps.length ≤ 1000) : TupA K H (.ref a) (some (ps.map some)) :=
  ⟨a, _, rfl, h, by rw [List.length_map]; exact hl, paired_ints ps⟩
def isSeatO (ns : List Int) : Option (List (Option Int)) → Bool
  | some os => decide (os.length = ns.length) && (List.zipWith (fun o n => between o 0 (n - 1)) os ns).all id
  | none => false
def isCallO (ns : List Int) : Option (List (Option Int)) → Bool
  | some os => decide (os.length = ns.length) && (os.map Option.isSome).all id
  | none => false
/-- a seat: one place a ring -/
def SeatOk : List Int → List Int → Prop
  | n :: ns, p :: ps => (0 ≤ p ∧ p < n) ∧ SeatOk ns ps
  | [], [] => True
  | _, _ => False
theorem SeatOk.len : ∀ {ns ps : List Int}, SeatOk ns ps → ps.length = ns.length
  | [], [], _ => rfl
  | _ :: _, _ :: _, h => by
    show _ + 1 = _ + 1
    rw [SeatOk.len h.2]
theorem seat_is : ∀ {ns ps : List Int}, SeatOk ns ps → (List.zipWith (fun o n => between o 0 (n - 1)) (ps.map some) ns).all id = true
  | [], [], _ => rfl
  | n :: ns, p :: ps, h => by
    have ih := seat_is h.2
    show (between (some p) 0 (n - 1) && _) = true
    rw [Bool.and_eq_true]
    refine ⟨?_, ih⟩
    show (decide (0 ≤ p) && decide (p ≤ n - 1)) = true
    rw [decide_eq_true h.1.1, decide_eq_true (by have := h.1.2; omega)]
    rfl
theorem isSeat_ok {ns ps : List Int} (h : SeatOk ns ps) : isSeatO ns (some (ps.map some)) = true := by
  show (decide ((ps.map some).length = ns.length) && _) = true
  rw [Bool.and_eq_true]
  exact ⟨decide_eq_true (by rw [List.length_map]; exact h.len), seat_is h⟩
theorem isCall_ok {ns cs : List Int} (h : cs.length = ns.length) : isCallO ns (some (cs.map some)) = true := by
  show (decide ((cs.map some).length = ns.length) && _) = true
  rw [Bool.and_eq_true]
  refine ⟨decide_eq_true (by rw [List.length_map]; exact h), ?_⟩
  rw [List.map_map, List.all_map, List.all_eq_true]
  exact fun _ _ => rfl
/-- a step by a multiple of a call -/
def shiftL : List Int → List Int → List Int → Int → List Int
  | n :: ns, p :: ps, c :: cs, f => (p + f * c) % n :: shiftL ns ps cs f
  | _, _, _, _ => []
theorem shift_len : ∀ {ns ps cs : List Int} {f : Int}, ps.length = ns.length → cs.length = ns.length → (shiftL ns ps cs f).length = ns.length
  | [], _, _, _, _, _ => by simp [shiftL]
  | _ :: ns, p :: ps, c :: cs, f, h1, h2 => by
    have ih := @shift_len ns ps cs f (by simpa using h1) (by simpa using h2)
    show (shiftL ns ps cs f).length + 1 = _ + 1
    rw [ih]
theorem shift_get : ∀ {ns ps cs : List Int} {f : Int} {i : Nat} {n p c : Int}, ns[i]? = some n → ps[i]? = some p → cs[i]? = some c → (shiftL ns ps cs f)[i]? = some ((p + f * c) % n)
  | n :: ns, p :: ps, c :: cs, f, 0, _, _, _, h1, h2, h3 => by
    simp at h1 h2 h3
    subst h1 h2 h3
    rfl
  | n :: ns, p :: ps, c :: cs, f, i + 1, a, b, d, h1, h2, h3 => by
    have ih := @shift_get ns ps cs f i a b d (by simpa using h1) (by simpa using h2) (by simpa using h3)
    show (shiftL ns ps cs f)[i]? = _
    exact ih
  | [], _, _, _, i, _, _, _, h1, _, _ => by simp at h1
  | _ :: _, [], _, _, i, _, _, _, _, h2, _ => by simp at h2
  | _ :: _, _ :: _, [], _, i, _, _, _, _, _, h3 => by simp at h3
theorem mul_ok {i j : Int} (h : (-(2 ^ 64) < i ∧ i < 2 ^ 64) ∨ (-(2 ^ 64) < j ∧ j < 2 ^ 64)) : IntMulOk i j := CMul.ok h
theorem zip_get {α β γ : Type} {f : α → β → γ} {l : List α} {m : List β} {i : Nat} {x : α} {y : β} (h1 : l[i]? = some x) (h2 : m[i]? = some y) : (List.zipWith f l m)[i]? = some (f x y) := by
  rw [List.getElem?_zipWith, h1, h2]
section
variable {P : Program} {w : World} {K : PySem.W.Frag} {mg : Str → Option Value} {base : Heap}
def sp_Table_sizes (C : Addr) : Sp := fun vs H Q _ => ∃ (a dx t : Addr), vs = [.ref a] ∧ H a = some (.ins C dx [("rings", .ref t)]) ∧ Q (.ref t) H
theorem ok_Table_sizes (T : TX K mg) : FnOk P w K mg base CX0 1 T.f_Table_sizes T.fd_Table_sizes ["self"] (sp_Table_sizes T.C_Table) := by
  refine T.F_Table_sizes.ok sc_Table_sizes (fun vs H Q E h => ?_) (fun cdv A outer s H vs Q E hr h => ?_)
  · obtain ⟨a, dx, t, rfl, _⟩ := h
    rfl
  · obtain ⟨a, dx, t, rfl, h1, k⟩ := h
    exact ⟨_, (pss_one (ps_ret (pe_fld (pv 0) rfl))), ⟨_, rfl, a, _, dx, _, _, rfl, h1, T.cl_Table, T.n_Table_rings, rfl, k⟩⟩
def sp_Table_is_seat (K : PySem.W.Frag) (C : Addr) : Sp := fun vs H Q _ => ∃ (a : Addr) (x : V) (ns : List Int) (ot : Option (List (Option Int))), vs = [.ref a, x] ∧ TabAt C H a ns ∧ ns.length ≤ 4 ∧ TupA K H x ot ∧ ∀ H2, Ex H H2 → Q (.bl (isSeatO ns ot)) H2
theorem ok_Table_is_seat (T : TX K mg) : FnOk P w K mg base CX0 3 T.f_Table_is_seat T.fd_Table_is_seat ["self", "value"] (sp_Table_is_seat K T.C_Table) := by
  refine T.F_Table_is_seat.ok sc_Table_is_seat (fun vs H Q E h => ?_) (fun cdv A outer s H vs Q E hr h => ?_)
  · obtain ⟨a, x, ns, ot, rfl, _⟩ := h
    rfl
  · obtain ⟨a, x, ns, ot, rfl, ⟨dx, t, h1, h2⟩, l4, hx, k⟩ := h
    refine ⟨_, (pss_cons (ps_if (PW.pt (pw_or (pt_not (pt_val (pe_callB call_isi (by rfl) T.z_isinstance (by decide +kernel) (pa_cons (pv 1) (pa_cons (pe_bltn (v := .ty "tuple") rfl T.z_tuple (by decide +kernel) rfl) pa_nil))))) (pw_or1 (pt_cmpR op_ne (pe_callB call_len_seq (by rfl) T.z_len (by decide +kernel) (pa_cons (pv 1) pa_nil)) (pe_callB call_len_seq (by rfl) T.z_len (by decide +kernel) (pa_cons (pe_fld (pv 0) rfl) pa_nil)) (nomark _))))) (pss_one (ps_ret pe_bl)) pss_nil) (pss_one (ps_ret (pe_callB (cr_all rfl) (by rfl) T.z_all (by decide +kernel) (pa_cons (pe_lc (own := [("place", 2), ("size", 3)]) (g := (gTup K 2 (gCons (gName 2) (gCons (gName 3) gNil)))) rfl sc_Table_is_seat.nd (CZ.pi_z2s (fl := [true, true]) rfl (by rfl) T.z_zip (pa_cons (pv 1) (pa_cons (pe_fld (pv 0) rfl) pa_nil))) (blkOk_by (N := N_Table_is_seat) (sc := defScope s_Table_is_seat) (by decide +kernel)) (fun _ _ _ _ _ => (pg_tup rfl (pgs_cons (pg_name (i := 2) sc_Table_is_seat.nd rfl (Or.inl rfl)) (pgs_cons (pg_name (i := 3) sc_Table_is_seat.nd rfl (Or.inl rfl)) pgs_nil)))) (fun _ _ _ _ _ => pts_nil) (fun _ _ _ _ _ => (pe_call (ok_is_between T) hr rfl T.m_is_between T.F_is_between.kp T.b_is_between .nil pass0 (pa_cons (pv 2) (pa_cons pe_int (pa_cons (pe_op op_sub (pv 3) pe_int) pa_nil)))))) pa_nil))))), ?_⟩
    cases ot with
    | none =>
      obtain ⟨ty, hty, hk⟩ := hx
      exact ⟨_, rfl, _, _, _, _, false, rfl, .ty _, hty, hk, _, rfl, k _ exr⟩
    | some os =>
      obtain ⟨v, xs, rfl, hv, hl, hp⟩ := hx
      have lo : xs.length = os.length := Paired.length hp
      refine ⟨_, rfl, _, _, _, _, true, rfl, .ty _, .base (.tup hv), kit_ty (by decide +kernel), _, rfl, iteF ?_⟩
      refine ⟨_, rfl, v, _, rfl, .inr (SqT.of hv), _, rfl, a, _, dx, _, _, rfl, h1, T.cl_Table, T.n_Table_rings, rfl, t, _, rfl, .inr (SqT.of h2), rfl, _, rfl, ?_⟩
      by_cases c : os.length = ns.length
      · refine itf ?_ ?_
        · rw [List.length_map, lo, c]
          simp
        · refine ⟨_, rfl, _, rfl, a, _, dx, _, _, rfl, h1, T.cl_Table, T.n_Table_rings, rfl, [v, t], rfl, rfl, ?_, fun D hD => ?_⟩
          · intro p hp2
            rcases List.mem_cons.mp (show p ∈ [(true, v), (true, t)] from hp2) with e | e
            · rw [e]; exact ⟨xs, SqT.of hv⟩
            · rw [List.mem_singleton.mp e]; exact ⟨_, SqT.of h2⟩
          · have lv : (List.zipWith (fun o n => between o 0 (n - 1)) os ns).length = ns.length := by rw [List.length_zipWith, c, Nat.min_self]
            refine lc_vals (CZ.walk_rows (xss := [xs, ns.map V.int]) (n := ns.length) ?_) ((List.zipWith (fun o n => between o 0 (n - 1)) os ns).map V.bl) (by rw [List.length_map, lv]) (by omega) hD (fun H3 e => .cons (SqT.of (e _ _ hv)) (.cons (SqT.of (e _ _ h2)) .nil)) ?_ (gmono_tup (gmono_cons gmono_name (gmono_cons gmono_name gmono_nil))) ?_
            · intro ys hy
              rcases List.mem_cons.mp hy with e | e
              · rw [e, lo, c]
              · rw [List.mem_singleton.mp e, List.length_map]
            · intro i y H3 H4 R hi e yy kk
              obtain ⟨Ta, vs, rfl, hT, rfl, hr2⟩ := yy
              cases hr2 with
              | cons r1 hr2 =>
                cases hr2 with
                | cons r2 hr2 =>
                  cases hr2
                  obtain ⟨n, hn, rfl⟩ := map_get r2
                  obtain ⟨o, ho, hi2⟩ := paired_get hp r1
                  refine ⟨Ta, _, rfl, SqT.of upd_same, rfl, _, _, rfl, _, _, rfl, rfl, rfl, ?_⟩
                  refine ⟨_, rfl, _, rfl, _, _, rfl, rfl, _, o, 0, n - 1, rfl, hi2.mono (fun b u z => exn hT b u (e b u z)), ?_⟩
                  refine kk _ _ (exn hT) ?_
                  rw [List.getElem?_map, zip_get ho hn]
                  rfl
            · intro H3 e hD3
              refine ⟨D, _, rfl, SqL.of hD3, ?_⟩
              have es : isSeatO ns (some os) = (List.zipWith (fun o n => between o 0 (n - 1)) os ns).all id := by
                show (decide _ && _) = _
                rw [decide_eq_true c, Bool.true_and]
              rw [← es]
              exact k _ e
      · refine itt ?_ ?_
        · rw [List.length_map, lo]
          simp
          omega
        · have es : isSeatO ns (some os) = false := by
            show (decide _ && _) = _
            rw [decide_eq_false c, Bool.false_and]
          have := k _ exr
          rw [es] at this
          exact this
end

/-- what an argument is as a text -/
def StrA (K : PySem.W.Frag) (H : Hp) (x : V) : Option Str → Prop
  | some z => x = .str z
  | none => ∃ t, TyX K H x t ∧ PySem.W.kitOne K t (.type "str") = some false
def isDirO : Option Str → Bool
  | some z => decide (z = "forward") || decide (z = "backward")
  | none => false
theorem tup_ge {xs : List V} (h : xs.length ≤ 4) : xs.length ≤ sizeLine := Nat.le_trans h (by decide)
section
variable {P : Program} {w : World} {K : PySem.W.Frag} {mg : Str → Option Value} {base : Heap}
def sp_Table_is_call (K : PySem.W.Frag) (C : Addr) : Sp := fun vs H Q _ => ∃ (a : Addr) (x : V) (ns : List Int) (ot : Option (List (Option Int))), vs = [.ref a, x] ∧ TabAt C H a ns ∧ TupA K H x ot ∧ ∀ H2, Ex H H2 → Q (.bl (isCallO ns ot)) H2
theorem ok_Table_is_call (T : TX K mg) : FnOk P w K mg base CX0 2 T.f_Table_is_call T.fd_Table_is_call ["self", "value"] (sp_Table_is_call K T.C_Table) := by
  refine T.F_Table_is_call.ok sc_Table_is_call (fun vs H Q E h => ?_) (fun cdv A outer s H vs Q E hr h => ?_)
  · obtain ⟨a, x, ns, ot, rfl, _⟩ := h
    rfl
  · obtain ⟨a, x, ns, ot, rfl, ⟨dx, t, h1, h2⟩, hx, k⟩ := h
    refine ⟨_, (pss_one (ps_ret (pe_and (pe_callB call_isi (by rfl) T.z_isinstance (by decide +kernel) (pa_cons (pv 1) (pa_cons (pe_bltn (v := .ty "tuple") rfl T.z_tuple (by decide +kernel) rfl) pa_nil))) (pe_and (pe_cmpR op_eq (pe_callB call_len_seq (by rfl) T.z_len (by decide +kernel) (pa_cons (pv 1) pa_nil)) (pe_callB call_len_seq (by rfl) T.z_len (by decide +kernel) (pa_cons (pe_fld (pv 0) rfl) pa_nil)) (nomark _)) (pe_one (pe_callB (cr_all rfl) (by rfl) T.z_all (by decide +kernel) (pa_cons (pe_lc (own := [("one", 2)]) (g := (gName 2)) rfl sc_Table_is_call.nd (pi_tup (pv 1)) (blkOk_by (N := N_Table_is_call) (sc := defScope s_Table_is_call) (by decide +kernel)) (fun _ _ _ _ _ => (pg_name (i := 2) sc_Table_is_call.nd rfl (Or.inl rfl))) (fun _ _ _ _ _ => pts_nil) (fun _ _ _ _ _ => (pe_call (ok_is_integer T) hr rfl T.m_is_integer T.F_is_integer.kp T.b_is_integer .nil pass0 (pa_cons (pv 2) pa_nil)))) pa_nil))))))), ?_⟩
    cases ot with
    | none =>
      obtain ⟨ty, hty, hk⟩ := hx
      exact ⟨_, rfl, _, _, _, _, false, rfl, .ty _, hty, hk, _, rfl, k _ exr⟩
    | some os =>
      obtain ⟨v, xs, rfl, hv, hl, hp⟩ := hx
      have lo : xs.length = os.length := Paired.length hp
      refine ⟨_, rfl, _, _, _, _, true, rfl, .ty _, .base (.tup hv), kit_ty (by decide +kernel), _, rfl, iteT ?_⟩
      refine ⟨_, rfl, v, _, rfl, .inr (SqT.of hv), _, rfl, a, _, dx, _, _, rfl, h1, T.cl_Table, T.n_Table_rings, rfl, t, _, rfl, .inr (SqT.of h2), rfl, _, rfl, ?_⟩
      by_cases c : os.length = ns.length
      · refine itt ?_ ?_
        · rw [List.length_map, lo, c]
          simp
        · refine ⟨_, rfl, v, rfl, ⟨_, SqT.of hv⟩, fun D hD => ?_⟩
          refine lc_vals walk_tup ((os.map Option.isSome).map V.bl) (by rw [List.length_map, List.length_map, lo]) (by omega) hD (fun H3 e => SqT.of (e _ _ hv)) ?_ gmono_name ?_
          · intro i y H3 H4 R hi e yy kk
            obtain ⟨rfl, hy⟩ := yy
            obtain ⟨o, ho, hi2⟩ := paired_get hp hy
            refine ⟨rfl, _, rfl, _, o, rfl, hi2.mono e, kk _ _ exr ?_⟩
            rw [List.getElem?_map, List.getElem?_map, ho]
            rfl
          · intro H3 e hD3
            refine ⟨D, _, rfl, SqL.of hD3, ?_⟩
            have es : isCallO ns (some os) = (os.map Option.isSome).all id := by
              show (decide _ && _) = _
              rw [decide_eq_true c, Bool.true_and]
            rw [← es]
            exact k _ e
      · refine itf ?_ ?_
        · rw [List.length_map, lo]
          simp
          omega
        · have es : isCallO ns (some os) = false := by
            show (decide _ && _) = _
            rw [decide_eq_false c, Bool.false_and]
          have := k _ exr
          rw [es] at this
          exact this
def sp_Table_shifted (C : Addr) : Sp := fun vs H Q _ => ∃ (a s c : Addr) (f : Int) (ns ps cs : List Int), vs = [.ref a, .ref s, .ref c, .int f] ∧ TabAt C H a ns ∧ SzOk ns ∧ H s = some (.tup (ps.map V.int)) ∧ H c = some (.tup (cs.map V.int)) ∧ ps.length = ns.length ∧ cs.length = ns.length ∧ (f = 1 ∨ f = -1) ∧
  ∀ H2 q, Ex H H2 → H q = none → H2 q = some (.tup ((shiftL ns ps cs f).map V.int)) → Q (.ref q) H2
theorem ok_Table_shifted (T : TX K mg) : FnOk P w K mg base CX0 1 T.f_Table_shifted T.fd_Table_shifted ["self", "seat", "call", "factor"] (sp_Table_shifted T.C_Table) := by
  refine T.F_Table_shifted.ok sc_Table_shifted (fun vs H Q E h => ?_) (fun cdv A outer s H vs Q E hr h => ?_)
  · obtain ⟨a, s, c, f, ns, ps, cs, rfl, _⟩ := h
    rfl
  · obtain ⟨a, s, c, f, ns, ps, cs, rfl, ⟨dx, t, h1, h2⟩, ok, hs, hc, lp, lc, hf, k⟩ := h
    have l4 := ok.le
    refine ⟨_, (pss_one (ps_ret (pe_callTy call_tuple_of (by rfl) T.z_tuple (by decide +kernel) (pa_cons (pe_lc (own := [("place", 4), ("one", 5), ("size", 6)]) (g := (gTup K 3 (gCons (gName 4) (gCons (gName 5) (gCons (gName 6) gNil))))) rfl sc_Table_shifted.nd (CZ.pi_z3s (fl := [true, true, true]) rfl (by rfl) T.z_zip (pa_cons (pv 1) (pa_cons (pv 2) (pa_cons (pe_fld (pv 0) rfl) pa_nil)))) (blkOk_by (N := N_Table_shifted) (sc := defScope s_Table_shifted) (by decide +kernel)) (fun _ _ _ _ _ => (pg_tup rfl (pgs_cons (pg_name (i := 4) sc_Table_shifted.nd rfl (Or.inl rfl)) (pgs_cons (pg_name (i := 5) sc_Table_shifted.nd rfl (Or.inl rfl)) (pgs_cons (pg_name (i := 6) sc_Table_shifted.nd rfl (Or.inl rfl)) pgs_nil))))) (fun _ _ _ _ _ => pts_nil) (fun _ _ _ _ _ => (pe_op op_mod (pe_op op_add (pv 4) (pe_op op_mulI (pv 3) (pv 5))) (pv 6)))) pa_nil)))), ?_⟩
    refine ⟨_, rfl, _, rfl, _, rfl, a, _, dx, _, _, rfl, h1, T.cl_Table, T.n_Table_rings, rfl, [s, c, t], rfl, rfl, ?_, fun D hD => ?_⟩
    · intro p hp2
      have hp3 : p = (true, s) ∨ p = (true, c) ∨ p = (true, t) := by simpa using hp2
      rcases hp3 with e | e | e
      · rw [e]; exact ⟨_, SqT.of hs⟩
      · rw [e]; exact ⟨_, SqT.of hc⟩
      · rw [e]; exact ⟨_, SqT.of h2⟩
    · have ls : (shiftL ns ps cs f).length = ns.length := shift_len lp lc
      refine lc_vals (CZ.walk_rows (xss := [ps.map V.int, cs.map V.int, ns.map V.int]) (n := ns.length) ?_) ((shiftL ns ps cs f).map V.int) (by rw [List.length_map, ls]) (by omega) hD (fun H3 e => .cons (SqT.of (e _ _ hs)) (.cons (SqT.of (e _ _ hc)) (.cons (SqT.of (e _ _ h2)) .nil))) ?_ (gmono_tup (gmono_cons gmono_name (gmono_cons gmono_name (gmono_cons gmono_name gmono_nil)))) ?_
      · intro ys hy
        have hy2 : ys = ps.map V.int ∨ ys = cs.map V.int ∨ ys = ns.map V.int := by simpa using hy
        rcases hy2 with e | e | e
        · rw [e, List.length_map, lp]
        · rw [e, List.length_map, lc]
        · rw [e, List.length_map]
      · intro i y H3 H4 R hi e yy kk
        obtain ⟨Ta, vs, rfl, hT, rfl, hr2⟩ := yy
        cases hr2 with
        | cons r1 hr2 =>
          cases hr2 with
          | cons r2 hr2 =>
            cases hr2 with
            | cons r3 hr2 =>
              cases hr2
              obtain ⟨p, hp, rfl⟩ := map_get r1
              obtain ⟨d, hd, rfl⟩ := map_get r2
              obtain ⟨n, hn, rfl⟩ := map_get r3
              have n1 := ok.one n (List.mem_of_getElem? hn)
              refine ⟨Ta, _, rfl, SqT.of upd_same, rfl, _, _, rfl, _, _, rfl, _, _, rfl, rfl, rfl, ?_⟩
              refine ⟨_, rfl, _, rfl, _, rfl, _, _, rfl, rfl, mul_ok (.inl (by rcases hf with e | e <;> rw [e] <;> decide)), _, _, rfl, rfl, _, rfl, _, _, rfl, rfl, (by show (0 : Int) < n; omega), ?_⟩
              refine kk _ _ (exn hT) ?_
              rw [List.getElem?_map, shift_get hn hp hd]
              rfl
      · intro H3 e hD3
        exact ⟨D, _, rfl, .inl ⟨SqL.of hD3, fun q hq => k _ q (fun b o z => exn hq b o (e b o z)) (Evl.fresh_back e hq) upd_same⟩⟩
def sp_is_direction (K : PySem.W.Frag) : Sp := fun vs H Q _ => ∃ x o, vs = [x] ∧ StrA K H x o ∧ ∀ H2, Ex H H2 → Q (.bl (isDirO o)) H2
theorem ok_is_direction (T : TX K mg) : FnOk P w K mg base CX0 1 T.f_is_direction T.fd_is_direction ["value"] (sp_is_direction K) := by
  refine T.F_is_direction.ok sc_is_direction (fun vs H Q E h => ?_) (fun cdv A outer s H vs Q E hr h => ?_)
  · obtain ⟨x, o, rfl, _⟩ := h
    rfl
  · obtain ⟨x, o, rfl, hx, k⟩ := h
    refine ⟨_, (pss_one (ps_ret (pe_and (pe_callB call_isi (by rfl) T.z_isinstance (by decide +kernel) (pa_cons (pv 0) (pa_cons (pe_bltn (v := .ty "str") rfl T.z_str (by decide +kernel) rfl) pa_nil))) (pe_one (pe_cmpR op_in_seq (pv 0) (pe_tup (pa_cons pe_str (pa_cons pe_str pa_nil))) rfl))))), ?_⟩
    cases o with
    | none =>
      obtain ⟨t, ht, hk⟩ := hx
      exact ⟨_, rfl, _, _, _, _, false, rfl, .ty _, ht, hk, _, rfl, k _ exr⟩
    | some z =>
      cases hx
      refine ⟨_, rfl, _, _, _, _, true, rfl, .ty _, .base (.str z), kit_ty (by decide +kernel), _, rfl, iteT ?_⟩
      refine ⟨_, rfl, by show 2 ≤ sizeLine; decide, fun p hp => ?_⟩
      refine ⟨p, _, rfl, .inr (SqT.of upd_same), rfl, rfl, ?_⟩
      have es : (if false = true then !inV (V.str z) [V.str "forward", V.str "backward"] else inV (V.str z) [V.str "forward", V.str "backward"]) = isDirO (some z) := by
        rw [if_neg Bool.false_ne_true]
        show (eqV (V.str "forward") (V.str z) || (eqV (V.str "backward") (V.str z) || false)) = (decide (z = "forward") || decide (z = "backward"))
        have h1 : eqV (V.str "forward") (V.str z) = decide (z = "forward") := by
          show decide (("forward" : Str) = z) = _
          exact decide_eq_decide.mpr ⟨Eq.symm, Eq.symm⟩
        have h2 : eqV (V.str "backward") (V.str z) = decide (z = "backward") := by
          show decide (("backward" : Str) = z) = _
          exact decide_eq_decide.mpr ⟨Eq.symm, Eq.symm⟩
        rw [h1, h2, Bool.or_false]
      rw [es]
      exact k _ (exn hp)
def sp_require_seat (K : PySem.W.Frag) (C : Addr) : Sp := fun vs H Q _ => ∃ (a : Addr) (x : V) (ns : List Int) (ot : Option (List (Option Int))), vs = [.ref a, x] ∧ TabAt C H a ns ∧ ns.length ≤ 4 ∧ TupA K H x ot ∧ isSeatO ns ot = true ∧ ∀ H2, Ex H H2 → Q .non H2
theorem ok_require_seat (T : TX K mg) : FnOk P w K mg base CX0 4 T.f_require_seat T.fd_require_seat ["table", "seat"] (sp_require_seat K T.C_Table) := by
  refine T.F_require_seat.ok sc_require_seat (fun vs H Q E h => ?_) (fun cdv A outer s H vs Q E hr h => ?_)
  · obtain ⟨a, x, ns, ot, rfl, _⟩ := h
    rfl
  · obtain ⟨a, x, ns, ot, rfl, ht, l4, hx, ok, k⟩ := h
    refine ⟨_, (pss_one (ps_if (pt_not (pt_val (pe_meth (pv 0) T.cl_Table T.me_Table_is_seat (ok_Table_is_seat T) hr T.b_Table_is_seat .nil pass0 (pa_cons (pv 1) pa_nil)))) pss_never pss_nil)), ?_⟩
    obtain ⟨dx, t, h1, h2⟩ := id ht
    refine ⟨_, rfl, a, dx, _, rfl, h1, rfl, _, rfl, a, x, ns, ot, rfl, ht, l4, hx, fun H2 e => ⟨_, rfl, itf (by rw [ok]; rfl) (k _ e)⟩⟩
def sp_require_call (K : PySem.W.Frag) (C : Addr) : Sp := fun vs H Q _ => ∃ (a : Addr) (x : V) (ns : List Int) (ot : Option (List (Option Int))), vs = [.ref a, x] ∧ TabAt C H a ns ∧ TupA K H x ot ∧ isCallO ns ot = true ∧ ∀ H2, Ex H H2 → Q .non H2
theorem ok_require_call (T : TX K mg) : FnOk P w K mg base CX0 3 T.f_require_call T.fd_require_call ["table", "call"] (sp_require_call K T.C_Table) := by
  refine T.F_require_call.ok sc_require_call (fun vs H Q E h => ?_) (fun cdv A outer s H vs Q E hr h => ?_)
  · obtain ⟨a, x, ns, ot, rfl, _⟩ := h
    rfl
  · obtain ⟨a, x, ns, ot, rfl, ht, hx, ok, k⟩ := h
    refine ⟨_, (pss_one (ps_if (pt_not (pt_val (pe_meth (pv 0) T.cl_Table T.me_Table_is_call (ok_Table_is_call T) hr T.b_Table_is_call .nil pass0 (pa_cons (pv 1) pa_nil)))) pss_never pss_nil)), ?_⟩
    obtain ⟨dx, t, h1, h2⟩ := id ht
    refine ⟨_, rfl, a, dx, _, rfl, h1, rfl, _, rfl, a, x, ns, ot, rfl, ht, hx, fun H2 e => ⟨_, rfl, itf (by rw [ok]; rfl) (k _ e)⟩⟩
def sp_Table_moves (C : Addr) : Sp := fun vs H Q _ => ∃ (a s c : Addr) (ns ps cs : List Int), vs = [.ref a, .ref s, .ref c] ∧ TabAt C H a ns ∧ SzOk ns ∧ H s = some (.tup (ps.map V.int)) ∧ H c = some (.tup (cs.map V.int)) ∧ SeatOk ns ps ∧ cs.length = ns.length ∧
  ∀ H2 q f b, Ex H H2 → H q = none → H f = none → H b = none → H2 q = some (.tup [.ref f, .ref b]) → H2 f = some (.tup ((shiftL ns ps cs 1).map V.int)) → H2 b = some (.tup ((shiftL ns ps cs (-1)).map V.int)) → Q (.ref q) H2
theorem ok_Table_moves (T : TX K mg) : FnOk P w K mg base CX0 5 T.f_Table_moves T.fd_Table_moves ["self", "seat", "call"] (sp_Table_moves T.C_Table) := by
  refine T.F_Table_moves.ok sc_Table_moves (fun vs H Q E h => ?_) (fun cdv A outer s H vs Q E hr h => ?_)
  · obtain ⟨a, s, c, ns, ps, cs, rfl, _⟩ := h
    rfl
  · obtain ⟨a, s, c, ns, ps, cs, rfl, ht, ok, hs, hc, sk, lc, k⟩ := h
    have l4 := ok.le
    have lp := sk.len
    refine ⟨_, (pss_cons (ps_expr (pe_call (ok_require_seat T) hr rfl T.m_require_seat T.F_require_seat.kp T.b_require_seat .nil pass0 (pa_cons (pv 0) (pa_cons (pv 1) pa_nil)))) (pss_cons (ps_expr (pe_call (ok_require_call T) (hr.mono (by decide)) rfl T.m_require_call T.F_require_call.kp T.b_require_call .nil pass0 (pa_cons (pv 0) (pa_cons (pv 2) pa_nil)))) (pss_one (ps_ret (pe_tup (pa_cons (pe_meth (pv 0) T.cl_Table T.me_Table_shifted (ok_Table_shifted T) (hr.mono (by decide)) T.b_Table_shifted .nil pass0 (pa_cons (pv 1) (pa_cons (pv 2) (pa_cons pe_int pa_nil)))) (pa_cons (pe_meth (pv 0) T.cl_Table T.me_Table_shifted (ok_Table_shifted T) (hr.mono (by decide)) T.b_Table_shifted .nil pass0 (pa_cons (pv 1) (pa_cons (pv 2) (pa_cons (pe_un un_neg pe_int) pa_nil)))) pa_nil))))))), ?_⟩
    refine ⟨_, rfl, _, rfl, a, _, ns, _, rfl, ht, l4, TupA.ints hs (by omega), isSeat_ok sk, fun H1 e1 => ?_⟩
    refine ⟨_, rfl, _, rfl, a, _, ns, _, rfl, ht.mono e1, TupA.ints (e1 _ _ hc) (by omega), isCall_ok lc, fun H2 e2 => ?_⟩
    have e12 : Ex H H2 := fun b o z => e2 b o (e1 b o z)
    obtain ⟨dx, t, g1, g2⟩ := ht.mono e12
    refine ⟨_, rfl, a, dx, _, rfl, g1, rfl, _, rfl, _, rfl, a, s, c, 1, ns, ps, cs, rfl, ⟨dx, t, g1, g2⟩, ok, e12 _ _ hs, e12 _ _ hc, lp, lc, .inl rfl, fun H3 f e3 nf hf => ?_⟩
    have e13 : Ex H H3 := fun b o z => e3 b o (e12 b o z)
    refine ⟨_, rfl, a, dx, _, rfl, e3 _ _ g1, rfl, _, rfl, _, rfl, _, rfl, a, s, c, -1, ns, ps, cs, rfl, ⟨dx, t, e3 _ _ g1, e3 _ _ g2⟩, ok, e13 _ _ hs, e13 _ _ hc, lp, lc, .inr rfl, fun H4 b e4 nb hb => ?_⟩
    have e14 : Ex H H4 := fun b o z => e4 b o (e13 b o z)
    refine ⟨by show 2 ≤ sizeLine; decide, fun q hq => ?_⟩
    have nfq : f ≠ q := ne_of_none (e4 _ _ hf) hq
    have nbq : b ≠ q := ne_of_none hb hq
    exact k _ q f b (fun c o z => exn hq c o (e14 c o z)) (Evl.fresh_back e14 hq) (Evl.fresh_back e12 nf) (Evl.fresh_back e13 nb) upd_same (by rw [upd_ne nfq]; exact e4 _ _ hf) (by rw [upd_ne nbq]; exact hb)
def sp_Table_step (C : Addr) : Sp := fun vs H Q _ => ∃ (a s c : Addr) (ns ps cs : List Int) (bk : Bool), vs = [.ref a, .ref s, .ref c, .str (if bk = true then "backward" else "forward")] ∧ TabAt C H a ns ∧ SzOk ns ∧ H s = some (.tup (ps.map V.int)) ∧ H c = some (.tup (cs.map V.int)) ∧ SeatOk ns ps ∧ cs.length = ns.length ∧
  ∀ H2 q, Ex H H2 → H q = none → H2 q = some (.tup ((shiftL ns ps cs (if bk = true then -1 else 1)).map V.int)) → Q (.ref q) H2
theorem ok_Table_step (T : TX K mg) : FnOk P w K mg base CX0 6 T.f_Table_step T.fd_Table_step ["self", "seat", "call", "direction"] (sp_Table_step T.C_Table) := by
  refine T.F_Table_step.ok sc_Table_step (fun vs H Q E h => ?_) (fun cdv A outer s H vs Q E hr h => ?_)
  · obtain ⟨a, s, c, ns, ps, cs, bk, rfl, _⟩ := h
    rfl
  · obtain ⟨a, s, c, ns, ps, cs, bk, rfl, ht, ok, hs, hc, sk, lc, k⟩ := h
    refine ⟨_, (pss_cons (ps_set (i := 4) sc_Table_step.nd rfl (Or.inl rfl) (pe_meth (pv 0) T.cl_Table T.me_Table_moves (ok_Table_moves T) hr T.b_Table_moves .nil pass0 (pa_cons (pv 1) (pa_cons (pv 2) pa_nil)))) (pss_cons (ps_if (pt_not (pt_val (pe_call (ok_is_direction T) (hr.mono (by decide)) rfl T.m_is_direction T.F_is_direction.kp T.b_is_direction .nil pass0 (pa_cons (pv 3) pa_nil)))) pss_never pss_nil) (pss_one (ps_ret (pe_ix ix_tup (pv 4) (pe_callTy call_int1 (by rfl) T.z_int (by decide +kernel) (pa_cons (pe_cmpR op_eq (pv 3) pe_str (nomark _)) pa_nil)) (fun _ _ => rfl)))))), ?_⟩
    obtain ⟨dx, t, g1, g2⟩ := id ht
    refine ⟨_, rfl, a, dx, _, rfl, g1, rfl, _, rfl, _, rfl, a, s, c, ns, ps, cs, rfl, ht, ok, hs, hc, sk, lc, fun H1 q f b e1 nq nf nb hq hf hb => ?_⟩
    refine ⟨_, rfl, _, some _, rfl, rfl, fun H2 e2 => ⟨_, rfl, itf ?_ ?_⟩⟩
    · cases bk <;> decide +kernel
    · cases bk with
      | false =>
        refine ⟨_, rfl, _, rfl, rfl, .inr ⟨_, rfl, q, _, _, _, rfl, rfl, SqT.of (e2 _ _ hq), ?_, k _ f (fun c o z => e2 c o (e1 c o z)) nf (e2 _ _ hf)⟩⟩
        have ei : (if decide (V.str (if false = true then "backward" else "forward") = V.str "backward") = true then 1 else 0 : Int) = 0 := by decide +kernel
        rw [ei]
        rfl
      | true =>
        refine ⟨_, rfl, _, rfl, rfl, .inr ⟨_, rfl, q, _, _, _, rfl, rfl, SqT.of (e2 _ _ hq), ?_, k _ b (fun c o z => e2 c o (e1 c o z)) nb (e2 _ _ hb)⟩⟩
        have ei : (if decide (V.str (if true = true then "backward" else "forward") = V.str "backward") = true then 1 else 0 : Int) = 1 := by decide +kernel
        rw [ei]
        rfl
end

/-- all but what is at s stays -/
def XB (s : Addr) (H H2 : Hp) : Prop := ∀ c o, c ≠ s → H c = some o → H2 c = some o
theorem XB.refl {s : Addr} {H : Hp} : XB s H H := fun _ _ _ h => h
theorem XB.trans {s : Addr} {H H1 H2 : Hp} (a : XB s H H1) (b : XB s H1 H2) : XB s H H2 := fun c o n h => b c o n (a c o n h)
theorem XB.upd {s : Addr} {H : Hp} {o : HO} : XB s H (upd H s o) := fun c u n h => by rw [upd_ne n]; exact h
theorem XB.of {s : Addr} {H H2 : Hp} (e : Ex H H2) : XB s H H2 := fun c o _ h => e c o h
theorem XB.back {s : Addr} {H H2 : Hp} (e : XB s H H2) {p : Addr} (hn : p ≠ s) (h : H2 p = none) : H p = none := by
  cases q : H p with
  | none => rfl
  | some o => rw [e p o hn q] at h; cases h
theorem mod_lo {i n : Int} (h : 0 < n) : 0 ≤ i % n := Int.emod_nonneg i (by omega)
theorem mod_hi {i n : Int} (h : 0 < n) : i % n < n := Int.emod_lt_of_pos i h

/-! ### data -/
mutual
theorem eqv_refl : ∀ d : PyData, d.canLay0 = true → PyData.eqv d d = true
  | .none, _ => by simp only [PyData.eqv]
  | .bool b, _ => by simp only [PyData.eqv, beq_self_eq_true]
  | .int i, _ => by simp only [PyData.eqv, beq_self_eq_true]
  | .str x, _ => by simp only [PyData.eqv, beq_self_eq_true]
  | .list xs, h => by
    simp only [PyData.canLay0] at h
    simp only [PyData.eqv]
    exact eqvAll_refl xs h
  | .tuple xs, h => by
    simp only [PyData.canLay0] at h
    simp only [PyData.eqv]
    exact eqvAll_refl xs h
  | .dict _, h => by simp [PyData.canLay0] at h
theorem eqvAll_refl : ∀ ds : List PyData, PyData.canLayAll0 ds = true → PyData.eqvAll ds ds = true
  | [], _ => by simp only [PyData.eqvAll]
  | d :: ds, h => by
    simp only [PyData.canLayAll0, Bool.and_eq_true] at h
    simp only [PyData.eqvAll, Bool.and_eq_true]
    exact ⟨eqv_refl d h.1, eqvAll_refl ds h.2⟩
end
/-- data of a depth below n, in a form that may be laid -/
def Sh (n : Nat) (d : PyData) : Prop := d.canLay0 = true ∧ d.depth ≤ n
theorem Sh.ok {d : PyData} (h : Sh 60 d) : SeqAt.shaped d = true := by
  unfold SeqAt.shaped
  rw [h.1, decide_eq_true (Nat.le_trans h.2 (by decide))]
  rfl
theorem sh_int {n : Nat} (i : Int) : Sh n (.int i) := ⟨by simp only [PyData.canLay0], by simp only [PyData.depth]; omega⟩
theorem sh_bool {n : Nat} (i : Bool) : Sh n (.bool i) := ⟨by simp only [PyData.canLay0], by simp only [PyData.depth]; omega⟩
theorem sh_none {n : Nat} : Sh n .none := ⟨by simp only [PyData.canLay0], by simp only [PyData.depth]; omega⟩
theorem sh_all {n : Nat} : ∀ {ds : List PyData}, (∀ d ∈ ds, Sh n d) → PyData.canLayAll0 ds = true ∧ PyData.depthAll ds ≤ n
  | [], _ => ⟨by simp only [PyData.canLayAll0], by simp only [PyData.depthAll]; omega⟩
  | d :: ds, h => by
    obtain ⟨h1, h2⟩ := h d List.mem_cons_self
    obtain ⟨g1, g2⟩ := sh_all fun x hx => h x (List.mem_cons_of_mem _ hx)
    refine ⟨by simp only [PyData.canLayAll0, h1, g1, Bool.and_self], ?_⟩
    simp only [PyData.depthAll]
    omega
theorem sh_tuple {n : Nat} {ds : List PyData} (h : ∀ d ∈ ds, Sh n d) : Sh (n + 1) (.tuple ds) := by
  obtain ⟨h1, h2⟩ := sh_all h
  exact ⟨by simp only [PyData.canLay0, h1], by simp only [PyData.depth]; omega⟩
theorem sh_list {n : Nat} {ds : List PyData} (h : ∀ d ∈ ds, Sh n d) : Sh (n + 1) (.list ds) := by
  obtain ⟨h1, h2⟩ := sh_all h
  exact ⟨by simp only [PyData.canLay0, h1], by simp only [PyData.depth]; omega⟩
theorem Sh.up {n m : Nat} {d : PyData} (h : Sh n d) (e : n ≤ m) : Sh m d := ⟨h.1, Nat.le_trans h.2 e⟩
/-- a tuple of ints -/
abbrev iT (ns : List Int) : PyData := .tuple (ns.map PyData.int)
theorem sh_ints {n : Nat} (ns : List Int) : Sh (n + 1) (iT ns) := sh_tuple fun d hd => by
  obtain ⟨i, _, rfl⟩ := List.mem_map.mp hd
  exact sh_int i
theorem dpall_ints {K : PySem.W.Frag} {H : Hp} : ∀ ns : List Int, DpAll K H (ns.map V.int) (ns.map PyData.int)
  | [] => .nil
  | n :: ns => .cons (.int n) (dpall_ints ns)
theorem dp_ints {K : PySem.W.Frag} {H : Hp} {a : Addr} {ns : List Int} (h : H a = some (.tup (ns.map V.int))) : Dp K H (.ref a) (iT ns) := .tup (SqT.of h) (dpall_ints ns)
theorem eqvAll_ints : ∀ ns ms : List Int, PyData.eqvAll (ns.map PyData.int) (ms.map PyData.int) = decide (ns = ms)
  | [], [] => by simp [PyData.eqvAll]
  | [], _ :: _ => by simp [PyData.eqvAll]
  | _ :: _, [] => by simp [PyData.eqvAll]
  | n :: ns, m :: ms => by
    have ih := eqvAll_ints ns ms
    simp only [List.map_cons, PyData.eqvAll, PyData.eqv, ih]
    by_cases h : n = m
    · subst h
      simp
    · have : (n == m) = false := by simpa using h
      rw [this]
      simp [h]
theorem eqv_ints (ns ms : List Int) : PyData.eqv (iT ns) (iT ms) = decide (ns = ms) := by
  simp only [PyData.eqv]
  exact eqvAll_ints ns ms
theorem sh_pair {n : Nat} {a b : PyData} (ha : Sh n a) (hb : Sh n b) : Sh (n + 1) (.tuple [a, b]) := sh_tuple fun d hd => by
  rcases List.mem_cons.mp hd with e | e
  · rw [e]; exact ha
  · rw [List.mem_singleton.mp e]; exact hb
theorem eqv_same {d : PyData} (h : Sh 60 d) : (!PyData.eqv d d) = false := by rw [eqv_refl d h.1]; rfl

/-! ### zip's rows, nested comprehensions, lists of tuples of ints -/
theorem yrow2 {xs ys : List V} {i : Nat} {H H2 : Hp} {x : V} (h : CZ.YRow [xs, ys] i H x H2) : ∃ (Ta : Addr) (a b : V), x = .ref Ta ∧ H Ta = none ∧ H2 = upd H Ta (.tup [a, b]) ∧ xs[i]? = some a ∧ ys[i]? = some b := by
  obtain ⟨Ta, vs, rfl, hT, rfl, r⟩ := h
  cases r with
  | cons r1 r =>
    cases r with
    | cons r2 r =>
      cases r
      exact ⟨Ta, _, _, rfl, hT, rfl, r1, r2⟩
theorem yrow3 {xs ys zs : List V} {i : Nat} {H H2 : Hp} {x : V} (h : CZ.YRow [xs, ys, zs] i H x H2) : ∃ (Ta : Addr) (a b c : V), x = .ref Ta ∧ H Ta = none ∧ H2 = upd H Ta (.tup [a, b, c]) ∧ xs[i]? = some a ∧ ys[i]? = some b ∧ zs[i]? = some c := by
  obtain ⟨Ta, vs, rfl, hT, rfl, r⟩ := h
  cases r with
  | cons r1 r =>
    cases r with
    | cons r2 r =>
      cases r with
      | cons r3 r =>
        cases r
        exact ⟨Ta, _, _, _, rfl, hT, rfl, r1, r2, r3⟩
theorem yints2 {xs ys : List Int} {i : Nat} {H H2 : Hp} {x : V} (h : CZ.YRow [xs.map V.int, ys.map V.int] i H x H2) : ∃ (Ta : Addr) (a b : Int), x = .ref Ta ∧ H Ta = none ∧ H2 = upd H Ta (.tup [.int a, .int b]) ∧ xs[i]? = some a ∧ ys[i]? = some b := by
  obtain ⟨Ta, a, b, rfl, hT, rfl, r1, r2⟩ := yrow2 h
  obtain ⟨p, hp, rfl⟩ := map_get r1
  obtain ⟨q, hq, rfl⟩ := map_get r2
  exact ⟨Ta, p, q, rfl, hT, rfl, hp, hq⟩
theorem yints3 {xs ys zs : List Int} {i : Nat} {H H2 : Hp} {x : V} (h : CZ.YRow [xs.map V.int, ys.map V.int, zs.map V.int] i H x H2) : ∃ (Ta : Addr) (a b c : Int), x = .ref Ta ∧ H Ta = none ∧ H2 = upd H Ta (.tup [.int a, .int b, .int c]) ∧ xs[i]? = some a ∧ ys[i]? = some b ∧ zs[i]? = some c := by
  obtain ⟨Ta, a, b, c, rfl, hT, rfl, r1, r2, r3⟩ := yrow3 h
  obtain ⟨p, hp, rfl⟩ := map_get r1
  obtain ⟨q, hq, rfl⟩ := map_get r2
  obtain ⟨r, hr, rfl⟩ := map_get r3
  exact ⟨Ta, p, q, r, rfl, hT, rfl, hp, hq, hr⟩
theorem all2 {K : PySem.W.Frag} {H : Hp} {p q : Bool × Addr} {xs ys : List V} (hp : CZ.SqK K H p xs) (hq : CZ.SqK K H q ys) : ∀ r ∈ [p, q], ∃ zs, CZ.SqK K H r zs := fun r hr => by
  rcases List.mem_cons.mp hr with e | hr
  · rw [e]; exact ⟨_, hp⟩
  · rw [List.mem_singleton.mp hr]; exact ⟨_, hq⟩
theorem all3 {K : PySem.W.Frag} {H : Hp} {p q t : Bool × Addr} {xs ys us : List V} (hp : CZ.SqK K H p xs) (hq : CZ.SqK K H q ys) (ht : CZ.SqK K H t us) : ∀ r ∈ [p, q, t], ∃ zs, CZ.SqK K H r zs := fun r hr => by
  rcases List.mem_cons.mp hr with e | hr
  · rw [e]; exact ⟨_, hp⟩
  · exact all2 hq ht r hr
theorem lens2 {xs ys : List V} {n : Nat} (h1 : xs.length = n) (h2 : ys.length = n) : ∀ zs ∈ [xs, ys], zs.length = n := fun zs hz => by
  rcases List.mem_cons.mp hz with e | hz
  · rw [e]; exact h1
  · rw [List.mem_singleton.mp hz]; exact h2
theorem lens3 {xs ys us : List V} {n : Nat} (h1 : xs.length = n) (h2 : ys.length = n) (h3 : us.length = n) : ∀ zs ∈ [xs, ys, us], zs.length = n := fun zs hz => by
  rcases List.mem_cons.mp hz with e | hz
  · rw [e]; exact h1
  · exact lens2 h2 h3 zs hz
theorem sqT {K : PySem.W.Frag} {H : Hp} {a : Addr} {xs : List V} (h : H a = some (.tup xs)) : CZ.SqK K H (true, a) xs := SqT.of h
theorem sqL {K : PySem.W.Frag} {H : Hp} {a : Addr} {xs : List V} (h : H a = some (.lst xs)) : CZ.SqK K H (false, a) xs := SqL.of h
section
variable {J : It} {n : Nat} {G : Hp → Prop} {Y : Nat → Hp → V → Hp → Prop}
/-- a comprehension of two loops: the outer -/
theorem lc2_it (w : Walk J n G Y) {g g1 : TG} {tt tt1 : TT} {te : TE} {wi1 : TI} {vs vs1 : List Nat} {σ : L2.St} {H1 : Hp} {D : Addr} {Qd : Hp → Prop} (Pv : Nat → Hp → Prop) (h0 : Pv 0 (upd H1 D (.lst []))) (hG : ∀ i H, i ≤ n → Pv i H → G H)
    (hs : ∀ i x H H2, i < n → Pv i H → Y i H x H2 → g x (wipe σ vs) H2 fun σ2 H2 => wipe σ2 vs = wipe σ vs ∧ tt σ2 H2 fun b H3 =>
      if b = true then wi1 σ2 H3 fun J1 H4 => ∃ W1 : Nat → Nat → Hp → Prop, (∃ m, W1 0 m H4) ∧ ∀ j k H, W1 j k H →
        (J1.stop j H ∧ Pv (i + 1) H) ∨ (J1.go j H ∧ ∃ Nx1 : Hp → Prop, (∀ H2, Nx1 H2 → ∃ k2, k2 < k ∧ W1 (j + 1) k2 H2) ∧ ∀ x H2, J1.yld j H x H2 → g1 x (wipe σ2 vs1) H2 fun σ3 H5 => wipe σ3 vs1 = wipe σ2 vs1 ∧ tt1 σ3 H5 fun b H6 =>
          if b = true then te σ3 H6 fun y H7 => ∃ acc, H7 D = some (.lst acc) ∧ acc.length < sizeLine ∧ Nx1 (upd H7 D (.lst (acc ++ [y]))) else Nx1 H6)
      else Pv (i + 1) H3) (hd : ∀ H, Pv n H → Qd H) :
    ∃ W : Nat → Nat → Hp → Prop, (∃ m, W 0 m (upd H1 D (.lst []))) ∧ ∀ i m H, W i m H →
      (J.stop i H ∧ Qd H) ∨ (J.go i H ∧ ∃ Nx : Hp → Prop, (∀ H2, Nx H2 → ∃ m2, m2 < m ∧ W (i + 1) m2 H2) ∧ ∀ x H2, J.yld i H x H2 → g x (wipe σ vs) H2 fun σ2 H2 => wipe σ2 vs = wipe σ vs ∧ tt σ2 H2 fun b H3 =>
        if b = true then wi1 σ2 H3 fun J1 H4 => ∃ W1 : Nat → Nat → Hp → Prop, (∃ m, W1 0 m H4) ∧ ∀ j k H, W1 j k H →
          (J1.stop j H ∧ Nx H) ∨ (J1.go j H ∧ ∃ Nx1 : Hp → Prop, (∀ H2, Nx1 H2 → ∃ k2, k2 < k ∧ W1 (j + 1) k2 H2) ∧ ∀ x H2, J1.yld j H x H2 → g1 x (wipe σ2 vs1) H2 fun σ3 H5 => wipe σ3 vs1 = wipe σ2 vs1 ∧ tt1 σ3 H5 fun b H6 =>
            if b = true then te σ3 H6 fun y H7 => ∃ acc, H7 D = some (.lst acc) ∧ acc.length < sizeLine ∧ Nx1 (upd H7 D (.lst (acc ++ [y]))) else Nx1 H6)
        else Nx H3) := by
  refine ⟨fun i m H => m = n - i ∧ i ≤ n ∧ Pv i H, ⟨n, by simp, Nat.zero_le _, h0⟩, ?_⟩
  rintro i m H ⟨rfl, hi, p⟩
  have q := hG i H hi p
  by_cases hlt : i < n
  · refine .inr ⟨w.goes i H hlt q, Pv (i + 1), fun H2 p2 => ⟨n - (i + 1), by omega, rfl, hlt, p2⟩, fun x H2 y => hs i x H H2 hlt p (w.yields i H x H2 hlt q y)⟩
  · have e : i = n := by omega
    subst e
    exact .inl ⟨w.stops H q, hd H p⟩
/-- .. the inner -/
theorem in_it (w : Walk J n G Y) {g1 : TG} {tt1 : TT} {te : TE} {vs1 : List Nat} {σ2 : L2.St} {H4 : Hp} {D : Addr} {Nx : Hp → Prop} (Pw : Nat → Hp → Prop) (h0 : Pw 0 H4) (hG : ∀ i H, i ≤ n → Pw i H → G H)
    (hs : ∀ j x H H2, j < n → Pw j H → Y j H x H2 → g1 x (wipe σ2 vs1) H2 fun σ3 H5 => wipe σ3 vs1 = wipe σ2 vs1 ∧ tt1 σ3 H5 fun b H6 =>
      if b = true then te σ3 H6 fun y H7 => ∃ acc, H7 D = some (.lst acc) ∧ acc.length < sizeLine ∧ Pw (j + 1) (upd H7 D (.lst (acc ++ [y]))) else Pw (j + 1) H6) (hd : ∀ H, Pw n H → Nx H) :
    ∃ W1 : Nat → Nat → Hp → Prop, (∃ m, W1 0 m H4) ∧ ∀ j k H, W1 j k H →
      (J.stop j H ∧ Nx H) ∨ (J.go j H ∧ ∃ Nx1 : Hp → Prop, (∀ H2, Nx1 H2 → ∃ k2, k2 < k ∧ W1 (j + 1) k2 H2) ∧ ∀ x H2, J.yld j H x H2 → g1 x (wipe σ2 vs1) H2 fun σ3 H5 => wipe σ3 vs1 = wipe σ2 vs1 ∧ tt1 σ3 H5 fun b H6 =>
        if b = true then te σ3 H6 fun y H7 => ∃ acc, H7 D = some (.lst acc) ∧ acc.length < sizeLine ∧ Nx1 (upd H7 D (.lst (acc ++ [y]))) else Nx1 H6) := by
  refine ⟨fun i m H => m = n - i ∧ i ≤ n ∧ Pw i H, ⟨n, by simp, Nat.zero_le _, h0⟩, ?_⟩
  rintro i m H ⟨rfl, hi, p⟩
  have q := hG i H hi p
  by_cases hlt : i < n
  · refine .inr ⟨w.goes i H hlt q, Pw (i + 1), fun H2 p2 => ⟨n - (i + 1), by omega, rfl, hlt, p2⟩, fun x H2 y => hs i x H H2 hlt p (w.yields i H x H2 hlt q y)⟩
  · have e : i = n := by omega
    subst e
    exact .inl ⟨w.stops H q, hd H p⟩
end
/-- refs of tuples of ints -/
def RowsR (H : Hp) (xs : List V) (hss : List (List Int)) : Prop := Paired (fun x hs => ∃ r, x = V.ref r ∧ H r = some (.tup (hs.map V.int))) xs hss
theorem RowsR.mono {H H2 : Hp} (e : Ex H H2) : ∀ {xs : List V} {hss : List (List Int)}, RowsR H xs hss → RowsR H2 xs hss
  | _, _, .nil => .nil
  | _, _, .cons ⟨r, h1, h2⟩ t => .cons ⟨r, h1, e _ _ h2⟩ (RowsR.mono e t)
theorem RowsR.snoc {H : Hp} {r : Addr} {hs : List Int} (h : H r = some (.tup (hs.map V.int))) : ∀ {xs : List V} {hss : List (List Int)}, RowsR H xs hss → RowsR H (xs ++ [.ref r]) (hss ++ [hs])
  | _, _, .nil => .cons ⟨r, rfl, h⟩ .nil
  | _, _, .cons q t => .cons q (RowsR.snoc h t)
theorem RowsR.app {H : Hp} {ys : List V} {kss : List (List Int)} (h : RowsR H ys kss) : ∀ {xs : List V} {hss : List (List Int)}, RowsR H xs hss → RowsR H (xs ++ ys) (hss ++ kss)
  | _, _, .nil => h
  | _, _, .cons q t => .cons q (RowsR.app h t)
theorem RowsR.len {H : Hp} : ∀ {xs : List V} {hss : List (List Int)}, RowsR H xs hss → xs.length = hss.length
  | _, _, .nil => rfl
  | _, _, .cons _ t => by rw [List.length_cons, List.length_cons, RowsR.len t]
theorem RowsR.get {H : Hp} : ∀ {xs : List V} {hss : List (List Int)} {i : Nat} {x : V}, RowsR H xs hss → xs[i]? = some x → ∃ hs r, hss[i]? = some hs ∧ x = V.ref r ∧ H r = some (.tup (hs.map V.int))
  | _, _, _, _, .nil, h => by simp at h
  | _, _, 0, _, .cons ⟨r, e, q⟩ _, h => by
    simp only [List.length_cons, Nat.zero_lt_succ, List.getElem?_eq_getElem, List.getElem_cons_zero, Option.some.injEq] at h
    subst h
    exact ⟨_, r, rfl, e, q⟩
  | _, _, i + 1, _, .cons _ t, h => by
    rw [List.getElem?_cons_succ] at h ⊢
    exact RowsR.get t h
theorem RowsR.dp {K : PySem.W.Frag} {H : Hp} : ∀ {xs : List V} {hss : List (List Int)}, RowsR H xs hss → DpAll K H xs (hss.map iT)
  | _, _, .nil => .nil
  | _, _, .cons ⟨r, e, q⟩ t => by
    subst e
    exact .cons (dp_ints q) (RowsR.dp t)
/-- a list of tuples of ints -/
def RowsAt (H : Hp) (D : Addr) (hss : List (List Int)) : Prop := ∃ xs, H D = some (.lst xs) ∧ RowsR H xs hss
theorem RowsAt.mono {H H2 : Hp} {D : Addr} {hss : List (List Int)} (e : Ex H H2) (h : RowsAt H D hss) : RowsAt H2 D hss := by
  obtain ⟨xs, h1, h2⟩ := h
  exact ⟨xs, e _ _ h1, h2.mono e⟩
theorem RowsAt.dp {K : PySem.W.Frag} {H : Hp} {D : Addr} {hss : List (List Int)} (h : RowsAt H D hss) : Dp K H (.ref D) (.list (hss.map iT)) := by
  obtain ⟨xs, h1, h2⟩ := h
  exact .lst (SqL.of h1) h2.dp
theorem sh_rows {n : Nat} (hss : List (List Int)) : Sh (n + 2) (.list (hss.map iT)) := sh_list fun d hd => by
  obtain ⟨hs, _, rfl⟩ := List.mem_map.mp hd
  exact sh_ints hs
theorem eqvAll_rows : ∀ ns ms : List (List Int), PyData.eqvAll (ns.map iT) (ms.map iT) = decide (ns = ms)
  | [], [] => by simp [PyData.eqvAll]
  | [], _ :: _ => by simp [PyData.eqvAll]
  | _ :: _, [] => by simp [PyData.eqvAll]
  | n :: ns, m :: ms => by
    have ih := eqvAll_rows ns ms
    simp only [List.map_cons, PyData.eqvAll, eqv_ints, ih]
    by_cases h : n = m
    · subst h
      simp
    · simp [h]
theorem eqv_rows (ns ms : List (List Int)) : PyData.eqv (.list (ns.map iT)) (.list (ms.map iT)) = decide (ns = ms) := by
  simp only [PyData.eqv]
  exact eqvAll_rows ns ms
theorem RowsR.upd {H : Hp} {D : Addr} {acc : List V} {o : HO} (hD : H D = some (.lst acc)) : ∀ {xs : List V} {hss : List (List Int)}, RowsR H xs hss → RowsR (upd H D o) xs hss
  | _, _, .nil => .nil
  | _, _, .cons ⟨r, h1, h2⟩ t => .cons ⟨r, h1, by rw [upd_ne (ne_of h2 hD (by intro z; cases z))]; exact h2⟩ (RowsR.upd hD t)
theorem rows_push {H : Hp} {D u : Addr} {hss : List (List Int)} {ks : List Int} (h : RowsAt H D hss) (hu : H u = some (.tup (ks.map V.int))) : ∃ acc, H D = some (.lst acc) ∧ acc.length = hss.length ∧ RowsAt (upd H D (.lst (acc ++ [.ref u]))) D (hss ++ [ks]) := by
  obtain ⟨xs, h1, h2⟩ := h
  refine ⟨xs, h1, h2.len, _, upd_same, ?_⟩
  exact RowsR.snoc (by rw [upd_ne (ne_of hu h1 (by intro z; cases z))]; exact hu) (h2.upd h1)
theorem ex_upd {H H2 : Hp} {D : Addr} {o : HO} (e : Ex H H2) (hD : H D = none) : Ex H (upd H2 D o) := fun c u z => by
  rw [upd_ne (ne_of_none z hD)]
  exact e c u z
theorem ext {H H1 H2 : Hp} (a : Ex H H1) (b : Ex H1 H2) : Ex H H2 := fun c o z => b c o (a c o z)

/-! ### tuple * int, from 1 on -/
theorem u65 {k : Nat} {A : Around} (r : Room k A) : A.units + 65 < cLine := by have := r.un; omega
theorem tuple_mul1 (l : Addr) (items : Array Value) (n : Nat) (dd : Option Addr) (sl : Array (Option Value)) (x : Int) (u : Tok) (c0 : (decide (x < -(2 ^ 63)) || decide (x ≥ 2 ^ 63)) = false) (c1 : (items.isEmpty || x == 1) = true) :
    Meets (Builtin.«tuple.__mul__» ⟨[.ref l, .int x u], []⟩) (fun _ R s => s.heap.get? l = some { cls := .type "tuple", dict := dd, data := .seq items n, slots := sl } ∧ R (.ok (.ret (Value.ref l))) s) :=
  .of_wp fun prog w A R s h => by
    obtain ⟨hp, g, d, tk, os⟩ := s
    obtain ⟨hl, h⟩ := h
    have f1 := AutoSeq1.idx_int
    wp_walk using wpAny_loadPart' hl
    repeat (first
      | (refine wpAny_ite_false (decide_eq_false (by rw [c0]; exact Bool.false_ne_true)) ?_; wp_walk using wpAny_loadPart' hl)
      | (refine wpAny_ite_true (decide_eq_true c1) ?_; wp_walk using wpAny_loadPart' hl))
    exact ⟨_, rfl, h⟩
def rRepA (K : PySem.W.Frag) : R2 := fun x y H Q => ∃ l k xs, x = .ref l ∧ y = .int k ∧ SqT K H l xs ∧ xs ≠ [] ∧ 1 ≤ k ∧ k ≤ 1000 ∧ xs.length ≤ 1000 ∧ (k = 1 → Q (.ref l) H) ∧ ∀ p, H p = none → Q (.ref p) (upd H p (.tup (List.replicate k.toNat xs).flatten))
theorem op_repA {X : Cx} : OpR X (binaryOp .Mult) (rRepA X.K) := by
  intro pins s σ H x y v u Q I rx ry h
  obtain ⟨l, k, xs, ex, ey, hT, hne, h1, h2, hz, q1, q⟩ := h
  by_cases hk : k = 1
  · subst ex ey hk
    cases rx
    obtain ⟨t, rfl⟩ := ry
    obtain ⟨its, r, ⟨⟨cls, dd, data, sl⟩, ho, hc, n, hd⟩, hs⟩ := I.tuple hT
    simp only at hc hd
    subst hc hd
    refine wpAny_binaryOp_repeat_ref (T := "tuple") (U := "int") (by decide) ⟨_, ho, rfl⟩ (fun s2 => typeIs_int s2 1 t) noFill_tuple_mul PySem.F.fills_int_mul PySem.F.slot_int_rmul repeat_tuple PySem.F.slot_int_index.lookup
      (call_meets PySem.F.slot_int_rmul (typeIs_int s 1 t) PySem.F.entry_int_rmul (PySem.F.args_int_rmul_2 _ _) (int_rmul_tuple 1 t l its.toArray n dd sl)
        ⟨ho, rfl, ⟨_, ho, rfl⟩, call_meets PySem.F.slot_tuple_mul ⟨_, ho, rfl⟩ PySem.F.entry_tuple_mul (PySem.F.args_tuple_mul_2 _ _) (tuple_mul1 l its.toArray n dd sl 1 t (by decide) (by simp)) ⟨ho, ?_⟩⟩)
    exact ⟨.ref l, H, I, rfl, q1 rfl⟩
  · exact op_repT pins s σ H x y v u Q I rx ry ⟨l, k, xs, ex, ey, hT, hne, by omega, h2, hz, q⟩
/-- (x,) * k -/
theorem rep_one (x : V) (k : Nat) : (List.replicate k [x]).flatten = List.replicate k x := by
  induction k with
  | zero => rfl
  | succ k ih => rw [List.replicate_succ, List.flatten_cons, ih, List.replicate_succ]; rfl
theorem rep_ints {K : PySem.W.Frag} {H : Hp} {Q : VK} {u : Addr} {x k : Int} (hu : H u = some (.tup [.int x])) (h1 : 1 ≤ k) (h2 : k ≤ 1000) (h : ∀ q H2, Ex H H2 → H2 q = some (.tup ((List.replicate k.toNat x).map V.int)) → Q (.ref q) H2) : rRepA K (.ref u) (.int k) H Q := by
  refine ⟨u, k, [.int x], rfl, rfl, SqT.of hu, (fun z => nomatch z), h1, h2, (by show 1 ≤ 1000; decide), fun e => ?_, fun p hp => ?_⟩
  · subst e
    exact h u H exr hu
  · refine h p _ (exn hp) ?_
    rw [upd_same, rep_one, List.map_replicate]
theorem ne_same {a b : List Int} (h : a = b) : (!PyData.eqv (iT a) (iT b)) = false := by rw [h]; exact eqv_same (sh_ints b)
/-- a comprehension over a tuple of ints, by a value each -/
theorem row_in {hss : List (List Int)} {ps : List Int} (h : ps ∈ hss) : ((hss.map iT).any fun z => PyData.eqv z (iT ps)) = true := by
  rw [List.any_eq_true]
  exact ⟨iT ps, List.mem_map.mpr ⟨ps, h, rfl⟩, by rw [eqv_ints]; simp⟩
/-- a list of ints -/
abbrev iL (ns : List Int) : PyData := .list (ns.map PyData.int)
theorem sh_ilist {n : Nat} (ns : List Int) : Sh (n + 1) (iL ns) := sh_list fun d hd => by
  obtain ⟨i, _, rfl⟩ := List.mem_map.mp hd
  exact sh_int i
theorem dp_ilist {K : PySem.W.Frag} {H : Hp} {a : Addr} {ns : List Int} (h : H a = some (.lst (ns.map V.int))) : Dp K H (.ref a) (iL ns) := .lst (SqL.of h) (dpall_ints ns)
theorem eqv_ilist (ns ms : List Int) : PyData.eqv (iL ns) (iL ms) = decide (ns = ms) := by
  simp only [PyData.eqv]
  exact eqvAll_ints ns ms
theorem dec_bl {a b : Bool} (h : a = b) : (!decide (V.bl a = V.bl b)) = false := by rw [h]; simp
theorem emod_eq_iff {a b n : Int} : a % n = b % n ↔ n ∣ a - b := by
  rw [Int.emod_eq_emod_iff_emod_sub_eq_zero, Int.dvd_iff_emod_eq_zero]
/-- behind an if that changes names alone -/
theorem ifs_cutS {c : TT} {t u : TS} {D : Ends} {σ : L2.St} {H : Hp} (R : L2.St → Prop) (hR : ∀ σ2, R σ2 → D.nx σ2 H) (h : ∀ N : L2.St → Hp → Prop, (∀ σ2, R σ2 → N σ2 H) → tIfS c t u { D with nx := N } σ H) : tIfS c t u D σ H :=
  h D.nx hR

/-- a comprehension that lengthens a row by each of ks -/
theorem lc_rows {J : It} {n : Nat} {G : Hp → Prop} {Y : Nat → Hp → V → Hp → Prop} (w : Walk J n G Y) {g : TG} {te : TE} {vs : List Nat} {σ : L2.St} {H1 : Hp} {D : Addr} {Qd : Hp → Prop} (row ks : List Int) (hn : ks.length = n) (hl : n ≤ 10000000) (hD : H1 D = none)
    (hG : ∀ H, Ex H1 H → G H)
    (hs : ∀ i x H H2 (R : VK), i < n → Ex H1 H → Y i H x H2 → (∀ k v H5, Ex H H5 → ks[i]? = some k → H5 v = some (.tup ((row ++ [k]).map V.int)) → R (.ref v) H5) → g x (wipe σ vs) H2 fun σ2 H3 => wipe σ2 vs = wipe σ vs ∧ te σ2 H3 R)
    (hg : ∀ x σ2 H2 (R R2 : L2.St → Hp → Prop), (∀ σ3 H3, R σ3 H3 → R2 σ3 H3) → g x σ2 H2 R → g x σ2 H2 R2)
    (hd : ∀ H, Ex H1 H → RowsAt H D (ks.map fun k => row ++ [k]) → Qd H) :
    ∃ W : Nat → Nat → Hp → Prop, (∃ m, W 0 m (upd H1 D (.lst []))) ∧ ∀ i m H, W i m H →
      (J.stop i H ∧ Qd H) ∨ (J.go i H ∧ ∃ Nx : Hp → Prop, (∀ H2, Nx H2 → ∃ m2, m2 < m ∧ W (i + 1) m2 H2) ∧ ∀ x H2, J.yld i H x H2 → g x (wipe σ vs) H2 fun σ2 H3 => wipe σ2 vs = wipe σ vs ∧ tYes σ2 H3 fun b H4 =>
        if b = true then te σ2 H4 fun y H5 => ∃ acc, H5 D = some (.lst acc) ∧ acc.length < sizeLine ∧ Nx (upd H5 D (.lst (acc ++ [y]))) else Nx H4) := by
  refine lc_it w (fun i H => Ex H1 H ∧ RowsAt H D ((ks.take i).map fun k => row ++ [k])) ⟨exn hD, _, upd_same, .nil⟩ (fun i H _ p => hG H p.1) (fun i x H H2 hi p y => ?_) (fun H p => hd H p.1 (by have := p.2; rwa [List.take_of_length_le (by rw [hn]; exact Nat.le_refl _)] at this))
  refine hg _ _ _ _ _ (fun σ3 H3 q => ⟨q.1, q.2⟩) (hs i x H H2 (fun y H5 => ∃ acc, H5 D = some (.lst acc) ∧ acc.length < sizeLine ∧ Ex H1 (upd H5 D (.lst (acc ++ [y]))) ∧ RowsAt (upd H5 D (.lst (acc ++ [y]))) D ((ks.take (i + 1)).map fun k => row ++ [k])) hi p.1 y fun k v H5 e hk hv => ?_)
  obtain ⟨acc, h1, h2, h3⟩ := rows_push (p.2.mono e) hv
  refine ⟨acc, h1, ?_, ex_upd (ext p.1 e) hD, ?_⟩
  · rw [h2, List.length_map, List.length_take]
    exact Nat.lt_of_le_of_lt (Nat.le_trans (Nat.min_le_right _ _) (by rw [hn]; exact hl)) (by decide)
  · rw [take_more hk, List.map_append]
    exact h3
/-- row + (k,) -/
theorem cat_row {K : PySem.W.Frag} {H : Hp} {Q : VK} {r u : Addr} {row : List Int} {k : Int} (hr : H r = some (.tup (row.map V.int))) (hu : H u = some (.tup [.int k])) (hl : row.length ≤ 1000) (h : ∀ v H5, Ex H H5 → H5 v = some (.tup ((row ++ [k]).map V.int)) → Q (.ref v) H5) : rCatA K (.ref r) (.ref u) H Q := by
  refine ⟨r, u, row.map V.int, [.int k], rfl, rfl, SqT.of hr, SqT.of hu, ?_, fun z => ?_, fun _ z => (nomatch z), fun _ _ v hv => ?_⟩
  · rw [List.length_map]
    exact Nat.le_trans (show _ + 1 ≤ 1001 by omega) (by decide)
  · have : row = [] := List.map_eq_nil_iff.mp z
    subst this
    exact h u H exr hu
  · refine h v _ (exn hv) ?_
    rw [upd_same, List.map_append]
    rfl
theorem rows_ext {H : Hp} {D E : Addr} {hss kss : List (List Int)} (h1 : RowsAt H D hss) (h2 : RowsAt H E kss) (ne : D ≠ E) : ∃ xs zs, H D = some (.lst xs) ∧ H E = some (.lst zs) ∧ xs.length = hss.length ∧ zs.length = kss.length ∧ RowsAt (upd H D (.lst (xs ++ zs))) D (hss ++ kss) := by
  obtain ⟨xs, a1, a2⟩ := h1
  obtain ⟨zs, b1, b2⟩ := h2
  exact ⟨xs, zs, a1, b1, a2.len, b2.len, _, upd_same, RowsR.app (b2.upd a1) (a2.upd a1)⟩

theorem eqT {i j : Int} (h : decide (V.int i = V.int j) = true) : i = j := V.int.inj (of_decide_eq_true h)
theorem eqF {i j : Int} (h : ¬decide (V.int i = V.int j) = true) : i ≠ j := fun z => h (decide_eq_true (by rw [z]))
/-- behind an if -/
theorem ifs_cutG {c : TT} {t u : TS} {D : Ends} {σ : L2.St} {H : Hp} (R : L2.St → Hp → Prop) (hR : ∀ σ2 H2, R σ2 H2 → D.nx σ2 H2) (h : ∀ N : L2.St → Hp → Prop, (∀ σ2 H2, R σ2 H2 → N σ2 H2) → tIfS c t u { D with nx := N } σ H) : tIfS c t u D σ H :=
  h D.nx hR
theorem exG {H H4 : Hp} {p : Addr} {o : HO} (h : upd H p o = H4) (n : H p = none) : Ex H H4 := h ▸ exn n
theorem atG {H H4 : Hp} {p : Addr} {o : HO} (h : upd H p o = H4) : H4 p = some o := h ▸ upd_same
theorem slen {n : Nat} (h : Nat.ble n 1000 = true) : n ≤ sizeLine := Nat.le_trans (Nat.le_of_ble_eq_true h) (by decide)
/-- a comprehension with a test: what passes, by f -/
theorem lc_filt {α : Type} {J : It} {n : Nat} {G : Hp → Prop} {Y : Nat → Hp → V → Hp → Prop} (w : Walk J n G Y) {g : TG} {tt : TT} {te : TE} {vs : List Nat} {σ : L2.St} {H1 : Hp} {D : Addr} {Qd : Hp → Prop} (xs : List α) (c : α → Bool) (f : α → V) (hn : xs.length = n) (hl : n ≤ 10000000) (hD : H1 D = none)
    (hG : ∀ H, Ex H1 H → G H)
    (hs : ∀ i x a H H2 (R : VK) (S : Hp → Prop), xs[i]? = some a → Ex H1 H → Y i H x H2 → (∀ y H5, Ex H H5 → c a = true → y = f a → R y H5) → (∀ H4, Ex H H4 → c a = false → S H4) → g x (wipe σ vs) H2 fun σ2 H3 => wipe σ2 vs = wipe σ vs ∧ tt σ2 H3 fun b H4 => if b = true then te σ2 H4 R else S H4)
    (hd : ∀ H, Ex H1 H → H D = some (.lst ((xs.filter c).map f)) → Qd H) :
    ∃ W : Nat → Nat → Hp → Prop, (∃ m, W 0 m (upd H1 D (.lst []))) ∧ ∀ i m H, W i m H →
      (J.stop i H ∧ Qd H) ∨ (J.go i H ∧ ∃ Nx : Hp → Prop, (∀ H2, Nx H2 → ∃ m2, m2 < m ∧ W (i + 1) m2 H2) ∧ ∀ x H2, J.yld i H x H2 → g x (wipe σ vs) H2 fun σ2 H3 => wipe σ2 vs = wipe σ vs ∧ tt σ2 H3 fun b H4 =>
        if b = true then te σ2 H4 fun y H5 => ∃ acc, H5 D = some (.lst acc) ∧ acc.length < sizeLine ∧ Nx (upd H5 D (.lst (acc ++ [y]))) else Nx H4) := by
  refine lc_out w (fun i => ((xs.take i).filter c).map f) (by simp) hD (fun i hi => ?_) hG (fun i x H H2 Nx hi e hDi y kA kN => ?_) (fun H e h => hd H e ?_)
  · rw [List.length_map]
    refine Nat.lt_of_le_of_lt (Nat.le_trans (List.length_filter_le _ _) (Nat.le_trans (by rw [List.length_take]; exact Nat.min_le_right _ _) (by rw [hn]; exact hl))) (by decide)
  · obtain ⟨a, ha⟩ : ∃ a, xs[i]? = some a := ⟨xs[i]'(by omega), List.getElem?_eq_getElem (by omega)⟩
    refine hs i x a H H2 _ _ ha e y (fun y2 H5 e5 hc hy => kA y2 H5 e5 ?_) (fun H4 e4 hc => kN H4 e4 ?_)
    · rw [take_more ha, List.filter_append, List.map_append, hy]
      simp [hc]
    · rw [take_more ha, List.filter_append, List.map_append]
      simp [hc]
  · rw [h, List.take_of_length_le (by rw [hn]; exact Nat.le_refl _)]
/-- rows that pass a test -/
theorem RowsR.filt {H : Hp} (c : List Int → Bool) : ∀ {xs : List V} {hss : List (List Int)}, RowsR H xs hss → RowsR H (((xs.zip hss).filter fun z => c z.2).map fun z => z.1) (hss.filter c)
  | _, _, .nil => .nil
  | _, _, .cons (a := x) (b := hs) q t => by
    have ih := RowsR.filt c t
    rw [List.zip_cons_cons]
    cases e : c hs with
    | false =>
      rw [List.filter_cons_of_neg (by simp [e]), List.filter_cons_of_neg (by simp [e])]
      exact ih
    | true =>
      rw [List.filter_cons_of_pos (by simp [e]), List.filter_cons_of_pos (by simp [e])]
      exact .cons q ih
theorem zip_at2 {α β : Type} {l : List α} {m : List β} {i : Nat} {z : α × β} (h : (l.zip m)[i]? = some z) : l[i]? = some z.1 ∧ m[i]? = some z.2 := by
  rw [List.getElem?_zip_eq_some] at h
  exact h
/-- tuple(s), s a list or a tuple -/
theorem tup_of {K : PySem.W.Frag} {H : Hp} {q : Bool × Addr} {xs : List V} {Q : VK} (h : SqH H q xs) (k : ∀ t H2, Ex H H2 → H2 t = some (.tup xs) → Q (.ref t) H2) : (SqL K H q.2 xs ∧ ∀ p, H p = none → Q (.ref p) (upd H p (.tup xs))) ∨ SqT K H q.2 xs ∧ Q (.ref q.2) H := by
  obtain ⟨b, a⟩ := q
  cases b
  · exact .inl ⟨SqL.of (show H a = some (.lst xs) from h), fun p hp => k p _ (exn hp) upd_same⟩
  · exact .inr ⟨SqT.of (show H a = some (.tup xs) from h), k a H exr h⟩
def rTupQ : List V → Hp → VK → Prop := fun vs H Q => ∃ (q : Bool × Addr) (xs : List V), vs = [.ref q.2] ∧ SqH H q xs ∧ ∀ t H2, Ex H H2 → H2 t = some (.tup xs) → Q (.ref t) H2
theorem call_tuple_q {X : Cx} : CallR X (.type "tuple") rTupQ := by
  intro pins s σ H vs us Q I r h
  obtain ⟨q, xs, rfl, hq, k⟩ := h
  exact call_tuple_of pins s σ H _ us Q I r ⟨q.2, xs, rfl, tup_of hq k⟩
theorem SqH.uniq {H : Hp} {q : Bool × Addr} {xs ys : List V} (h1 : SqH H q xs) (h2 : SqH H q ys) : xs = ys := by
  obtain ⟨b, a⟩ := q
  cases b
  · have e : some (HO.lst xs) = some (HO.lst ys) := (show H a = some (.lst xs) from h1).symm.trans (show H a = some (.lst ys) from h2)
    injection e with e
    injection e
  · have e : some (HO.tup xs) = some (HO.tup ys) := (show H a = some (.tup xs) from h1).symm.trans (show H a = some (.tup ys) from h2)
    injection e with e
    injection e
theorem RowsR.monoT {H H2 : Hp} (e : ∀ c xs, H c = some (.tup xs) → H2 c = some (.tup xs)) : ∀ {xs : List V} {hss : List (List Int)}, RowsR H xs hss → RowsR H2 xs hss
  | _, _, .nil => .nil
  | _, _, .cons ⟨r, h1, h2⟩ t => .cons ⟨r, h1, e _ _ h2⟩ (RowsR.monoT e t)

-- exceptions
/-- an error of the class at S is what «except S» names -/
theorem exm_self {K : PySem.W.Frag} {S : Addr} (h1 : PySem.W.subIn K (.ref S) (.type "BaseException") = some true) (h2 : PySem.W.isClsIn K S = true) (h3 : PySem.W.typeIn K (.ref S) = some (.type "type")) (h4 : PySem.W.subIn K (.ref S) (.ref S) = some true) :
    PySem.W.exmOne K (.ref S) (.ref S) = some true := by
  have e1 : (PySem.W.subIn K (.ref S) (.type "BaseException") == some true) = true := by rw [h1] <;> rfl
  have e2 : ((PySem.W.clsIn K S).isSome && PySem.W.typeIn K (.ref S) == some (.type "type")) = true := by
    have h2' : (PySem.W.clsIn K S).isSome = true := h2
    rw [h2', h3] <;> rfl
  show (if (PySem.W.subIn K (.ref S) (.type "BaseException") == some true) = true then (if ((PySem.W.clsIn K S).isSome && PySem.W.typeIn K (.ref S) == some (.type "type")) = true then PySem.W.subIn K (.ref S) (.ref S) else none) else none) = some true
  rw [if_pos e1, if_pos e2]
  exact h4
/-- what the first clause 'except x as n' wishes of an exception of the body that it takes: slot i is n's -/
def wAs1 (K : PySem.W.Frag) (c : Value) (i : Nat) (ts : Addr → Value → Option Addr → TS) (D : Ends) : WX := fun cls d σ H =>
  PySem.W.exmOne K cls c = some true ∧ ∀ a, H a = none → ts a cls d { nx := fun σ' H' => D.nx (σ'.set i none) H', rt := D.rt, bk := fun σ' H' => D.bk (σ'.set i none) H', ct := fun σ' H' => D.ct (σ'.set i none) H' } (σ.set i (some (.ref a))) H
/-- try, where the first clause takes what the body raises; what the other clauses are is all one -/
theorem ps_try_as1 {X : Cx} {x n : Str} {c : Value} {i : Nat} {body suite : List Stmt} {b₀ : Stmt} {np pos pos' : Pos} {hds : List ExceptHandler} {tb : WX → TS} {ts : Addr → Value → Option Addr → TS} (hs : X.stack = X.env :: X.outer) (hf : X.env.frame = some X.env.locals) (hN : X.N.Nodup) (hi : X.N[i]? = some n) (hln : X.env.kindOf n = some .local) (hc : Names X x c)
    (hb : ∀ (W : WX) (pn : List (Addr × Obj)) (xe : Value → Shared → Prop), Takes (X.tr pn xe) W → PassesOwn (model X.prog X.w) X.A X.env xe → PSs (X.tr pn xe) body (tb W))
    (hsu : ∀ (a : Addr) (oe : Obj) (cls : Value) (d : Option Addr) (pn : List (Addr × Obj)), Zc cls d oe → (∃ vs, oe.data = .fields vs) → PSs (X.suite a ((a, oe) :: pn)) (b₀ :: suite) (ts a cls d)) :
    PS X (.Try body (.ExceptHandler (some (.Name x np)) (some n) (b₀ :: suite) pos' :: hds) [] [] pos) (fun D σ H => tb (wAs1 X.K c i ts D) D σ H) := by
  refine ⟨fun pins s σ H D I h => ?_⟩
  have ok := I.ok
  have hfr : X.A.frames = some (X.env :: X.outer) := by rw [ok.frames, hs]
  have hloc : Loc X.env.scope n := .inl hln
  refine wpAny_Try_except ?_
  refine wpAny_mono ((hb (wAs1 X.K c i ts D) (X.pn ++ pins) (fun e s₁ => wpAny (model X.prog X.w) X.A (noteFrame e X.env) (fun _ s₂ => wpAny (model X.prog X.w) X.A (setFlight e none) (fun _ s₃ =>
    wpAny (model X.prog X.w) X.A (handleBy e X.env (.ExceptHandler (some (.Name x np)) (some n) (b₀ :: suite) pos' :: hds)) (SP X pins D) X.xe s₃) X.xe s₂) X.xe s₁) (fun u s' xx => ?_) PassesOwn.looking).run [] s σ H D (I.toTry _) h) (fun f s1 hsp => ?_) (fun e s1 he => he)
  · obtain ⟨a, B, sI, pins', σ', H', cls, d, rfl, J', nb, up, sky, na, os, ag, hb1, hyes⟩ := xx
    have J : Inv X pins σ' H' sI := J'.ofTry ok
    have sky' : Sky B (X.env :: X.outer) a (Zc cls d) X.env.locals s'.heap := by rw [← hs]; exact sky
    show wpAny (model X.prog X.w) X.A (noteFrame (.ref a) X.env) _ _ _
    refine Sky.land Zc.steady hfr hf sky' fun h3 fl3 up3 => ?_
    have J3 : Inv X pins σ' H' { s' with heap := h3 } := J.landed nb fl3.1 (up.trans up3) os ag
    obtain ⟨oe3, vs3, he3, hz3, hd3⟩ := fl3.there
    have notFr : ∀ {h : Heap} {o : Obj} {vs : Array Value}, h.FunFrames B (X.env :: X.outer) → h.get? a = some o → o.data = .fields vs → a ∉ frs (X.env :: X.outer) := fun {h o vs} ff e dd hm => by
      obtain ⟨_, o', e', hnf⟩ := ff.mem hm
      rw [e] at e'; cases e'
      exact hnf _ dd
    have nfr := notFr fl3.2.2.1 he3 hd3
    have nL : a ≠ X.env.locals := fun z => nfr (List.mem_filterMap.mpr ⟨X.env, List.mem_cons_self, by rw [hf, z]⟩)
    have nF : a ∉ X.fs := fun hm => by
      obtain ⟨e, he, q⟩ := List.mem_filterMap.mp hm
      exact nfr (List.mem_filterMap.mpr ⟨e, List.mem_cons_of_mem _ he, q⟩)
    have S3 := J3.suite he3 hd3 na nL nF
    refine wpAny_handleBy_cons (codeAny_handlers_test ?_) (by intro q; cases q)
    have LT : PySem.W.Looks (model X.prog X.w) h3 (typeOf (.ref a)) cls := fun A Q E s k q => wpAny_typeOf_ref (k _ _ he3) (by rw [hz3.1]; exact q)
    have LM := PySem.W.exm_one (M := model X.prog X.w) (J3.kIn) LT hb1
    have test : ∀ {Q : Value → Shared → Prop} {E : Value → Shared → Prop}, Q c { s' with heap := h3 } → wpAny (model X.prog X.w) (X.A.mark (some (.ref a))) (eval (.Name x np) X.env) Q E { s' with heap := h3 } := fun {Q E} q => by
      obtain ⟨hg, hdbg, hm | ⟨hm, hv, hnn⟩⟩ := hc
      · exact ld_glob (X := X.suite a ((a, oe3) :: (X.pn ++ pins))) S3 hg hm q hdbg
      · exact ld_blt (X := X.suite a ((a, oe3) :: (X.pn ++ pins))) S3 hg hm hv q hnn hdbg
    refine test (LM.here ?_)
    refine codeAny_handlers_suite_as ?_
    refine HandSPX.lands_againZ fl3 fun h4 fl4 up4 => ?_
    have J4 : Inv X pins σ' H' { s' with heap := h4 } := J.landed nb fl4.1 ((up.trans up3).trans up4) os ag
    obtain ⟨oe4, vs4, he4, hz4, hd4⟩ := fl4.there
    have S4 := J4.suite he4 hd4 na nL nF
    refine store_ok (X := X.suite a ((a, oe4) :: (X.pn ++ pins))) (v := .ref a) S4 hN hi hloc rfl (fun s5 S5 => ?_) (.inr hln)
    refine wpAny_mono ((hsu a oe4 cls d (X.pn ++ pins) hz4 ⟨_, hd4⟩).run [] s5 _ H' _ S5 (hyes a na)) (fun f s6 hsp => ?_) (fun _ _ z => False.elim z)
    have end_ : ∀ {σ6 : L2.St} {H6 : Hp} {Q : Shared → Prop}, Inv (X.suite a ((a, oe4) :: (X.pn ++ pins))) [] σ6 H6 s6 → (∀ s7, Inv X pins (σ6.set i none) H6 s7 → Q s7) →
        wpAny (model X.prog X.w) X.A (do bindName X.env n .none; unbindBehindTheSuite X.env n pos') (fun _ s7 => Q s7) X.xe s6 := fun {σ6 H6 Q} S6 hq => gone_ok (S6.unsuite ok) hN hi hln hq
    cases f with
    | next =>
      obtain ⟨σ6, H6, S6, q6⟩ := hsp
      exact end_ S6 fun s7 J7 => ⟨_, _, J7, q6⟩
    | brk =>
      obtain ⟨σ6, H6, S6, q6⟩ := hsp
      exact end_ S6 fun s7 J7 => ⟨_, _, J7, q6⟩
    | cont =>
      obtain ⟨σ6, H6, S6, q6⟩ := hsp
      exact end_ S6 fun s7 J7 => ⟨_, _, J7, q6⟩
    | ret u =>
      obtain ⟨v6, σ6, H6, S6, r6, q6⟩ := hsp
      exact end_ S6 fun s7 J7 => ⟨_, _, _, J7, r6, q6⟩
  · cases f with
    | next =>
      obtain ⟨σ', H', J', q⟩ := hsp
      exact wpAny_execs_nil ⟨σ', H', J'.ofTry ok, q⟩
    | brk =>
      obtain ⟨σ', H', J', q⟩ := hsp
      exact ⟨σ', H', J'.ofTry ok, q⟩
    | cont =>
      obtain ⟨σ', H', J', q⟩ := hsp
      exact ⟨σ', H', J'.ofTry ok, q⟩
    | ret u =>
      obtain ⟨v, σ', H', J', r, q⟩ := hsp
      exact ⟨v, σ', H', J'.ofTry ok, r, q⟩

theorem shift_back {f : Int} : ∀ {ns ps cs : List Int}, SeatOk ns ps → cs.length = ns.length → shiftL ns (shiftL ns ps cs f) cs (-f) = ps
  | [], [], [], _, _ => rfl
  | n :: ns, p :: ps, c :: cs, h, l => by
    show ((p + f * c) % n + -f * c) % n :: _ = _
    rw [shift_back h.2 (Nat.succ.inj l), Int.emod_add_emod, Int.neg_mul, Int.add_neg_cancel_right, Int.emod_eq_of_lt h.1.1 h.1.2]
theorem shift_neg {f : Int} : ∀ {ns ps cs : List Int}, shiftL ns ps (cs.map fun c => 0 - c) f = shiftL ns ps cs (-f)
  | [], _, _ => by cases ‹List Int› <;> simp [shiftL]
  | _ :: _, [], _ => by simp [shiftL]
  | _ :: _, _ :: _, [] => by simp [shiftL]
  | n :: ns, p :: ps, c :: cs => by
    show (p + f * (0 - c)) % n :: _ = (p + -f * c) % n :: _
    rw [shift_neg, Int.zero_sub, Int.mul_neg, Int.neg_mul]
theorem shift_comm {f g : Int} : ∀ {ns ps cs ds : List Int}, ps.length = ns.length → cs.length = ns.length → ds.length = ns.length → shiftL ns (shiftL ns ps cs f) ds g = shiftL ns (shiftL ns ps ds g) cs f
  | [], [], [], [], _, _, _ => rfl
  | n :: ns, p :: ps, c :: cs, d :: ds, l1, l2, l3 => by
    show ((p + f * c) % n + g * d) % n :: _ = ((p + g * d) % n + f * c) % n :: _
    rw [shift_comm (Nat.succ.inj l1) (Nat.succ.inj l2) (Nat.succ.inj l3), Int.emod_add_emod, Int.emod_add_emod, Int.add_right_comm]
theorem shift_seat {f : Int} : ∀ {ns ps cs : List Int}, (∀ n ∈ ns, 1 ≤ n) → ps.length = ns.length → cs.length = ns.length → SeatOk ns (shiftL ns ps cs f)
  | [], [], [], _, _, _ => True.intro
  | n :: ns, p :: ps, c :: cs, h, l1, l2 => by
    have n1 := h n List.mem_cons_self
    exact ⟨⟨Int.emod_nonneg _ (by omega), Int.emod_lt_of_pos _ (by omega)⟩, shift_seat (fun m hm => h m (List.mem_cons_of_mem _ hm)) (Nat.succ.inj l1) (Nat.succ.inj l2)⟩
theorem shift_same {f g : Int} : ∀ {ns ps cs : List Int}, ps.length = ns.length → cs.length = ns.length → (shiftL ns ps cs f = shiftL ns ps cs g ↔ ∀ z ∈ cs.zip ns, z.2 ∣ (f - g) * z.1)
  | [], [], [], _, _ => by simp [shiftL]
  | n :: ns, p :: ps, c :: cs, l1, l2 => by
    have e : p + f * c - (p + g * c) = (f - g) * c := by rw [Int.sub_mul]; omega
    show (p + f * c) % n :: _ = (p + g * c) % n :: _ ↔ _
    rw [List.cons.injEq, shift_same (Nat.succ.inj l1) (Nat.succ.inj l2), emod_eq_iff, e, List.zip_cons_cons, List.forall_mem_cons]
theorem shift_zero : ∀ {ns ps cs : List Int}, SeatOk ns ps → cs.length = ns.length → shiftL ns ps cs 0 = ps
  | [], [], [], _, _ => rfl
  | n :: ns, p :: ps, c :: cs, h, l => by
    show (p + 0 * c) % n :: _ = _
    rw [shift_zero h.2 (Nat.succ.inj l), Int.zero_mul, Int.add_zero, Int.emod_eq_of_lt h.1.1 h.1.2]
/-- a call times k -/
theorem shift_times {k : Int} : ∀ {ns ps cs : List Int}, shiftL ns ps (cs.map fun c => c * k) 1 = shiftL ns ps cs k
  | [], _, _ => by cases ‹List Int› <;> simp [shiftL]
  | _ :: _, [], _ => by simp [shiftL]
  | _ :: _, _ :: _, [] => by simp [shiftL]
  | n :: ns, p :: ps, c :: cs => by
    show (p + 1 * (c * k)) % n :: _ = (p + k * c) % n :: _
    rw [shift_times, Int.one_mul, Int.mul_comm c]
theorem zero_seat : ∀ {ns : List Int}, (∀ n ∈ ns, 1 ≤ n) → SeatOk ns (List.replicate ns.length 0)
  | [], _ => True.intro
  | n :: ns, h => ⟨⟨Int.le_refl _, by have := h n List.mem_cons_self; omega⟩, zero_seat fun m hm => h m (List.mem_cons_of_mem _ hm)⟩

/-- Table(..) -/
theorem mk_tab {C a : Addr} {b : Bool} {H : Hp} {ns : List Int} {R : Addr → Hp → Prop} {E : XK} (hq : SqH H (b, a) (ns.map V.int)) (ok : SzOk ns) (k : ∀ x H2, Ex H H2 → H x = none → TabAt C H2 x ns → R x H2) :
    ∀ x dx, H x = none → H dx = none → dx ≠ x → sp_Table_init C [.ref x, .ref a] (upd (upd H dx (.own x)) x (.ins C dx [])) (fun v H2 => v = .non ∧ R x H2) E := by
  intro x dx nx ndx _
  have exB : Ex H (upd (upd H dx (.own x)) x (.ins C dx [])) := fun c o z => by
    rw [upd_ne (ne_of_none z nx), upd_ne (ne_of_none z ndx)]
    exact z
  refine ⟨x, dx, (b, a), ns, rfl, upd_same, hq.mono exB, ok, fun H3 k3 ht3 => ⟨rfl, ?_⟩⟩
  obtain ⟨t, g1, g2⟩ := ht3
  exact k x H3 (fun c o z => k3 c o (ne_of_none z nx) (exB c o z)) nx ⟨dx, t, g1, g2⟩
theorem eqN {i j : Int} (h : ¬(!decide (V.int i = V.int j)) = true) : i = j := by
  by_cases e : i = j
  · exact e
  · exact absurd (by simp [e]) h
/-! ### lists and tuples alike -/
theorem cut_from (xs : List V) (k : Nat) : cutV xs (some (k : Int)) none = xs.drop k := by
  unfold cutV
  rw [HT.sIx_nat, HT.sIx_none]
  by_cases h : k ≤ xs.length
  · rw [Nat.min_eq_left h]
    exact List.take_of_length_le (by rw [List.length_drop]; omega)
  · rw [Nat.min_eq_right (by omega), List.drop_of_length_le (Nat.le_refl _), List.drop_of_length_le (by omega)]
    simp
theorem cut_to (xs : List V) (k : Nat) : cutV xs none (some (k : Int)) = xs.take k := by
  unfold cutV
  rw [HT.sIx_nat, HT.sIx_none, List.drop_zero, Nat.sub_zero]
  by_cases h : k ≤ xs.length
  · rw [Nat.min_eq_left h]
  · rw [Nat.min_eq_right (by omega), List.take_of_length_le (Nat.le_refl _), List.take_of_length_le (by omega)]
theorem cut_whole {xs : List V} {lo hi : Option Int} (h : HT.sIx xs.length 0 lo = 0 ∧ HT.sIx xs.length xs.length hi = xs.length) : cutV xs lo hi = xs := by
  unfold cutV
  rw [h.1, h.2, List.drop_zero, Nat.sub_zero, List.take_of_length_le (Nat.le_refl _)]
def rIxQ (K : PySem.W.Frag) : R2 := fun x y H Q => ∃ (q : Bool × Addr) (xs : List V) (i : Int) (v : V), x = .ref q.2 ∧ y = .int i ∧ CZ.SqK K H q xs ∧ atI xs i = some v ∧ Q v H
theorem ix_q {X : Cx} : IxR X (rIxQ X.K) := by
  intro value slice pins s σ H x y v u Q I rx ry h hsub
  obtain ⟨⟨b, a⟩, xs, i, z, rfl, rfl, hq, hz, q⟩ := h
  cases b
  · exact ix_list value slice pins s σ H _ _ v u Q I rx ry ⟨a, xs, i, z, rfl, rfl, hq, hz, q⟩ hsub
  · exact ix_tup value slice pins s σ H _ _ v u Q I rx ry ⟨a, xs, i, z, rfl, rfl, hq, hz, q⟩ hsub
def rSlQ : V → Option Int → Option Int → Hp → VK → Prop := fun x lo hi H Q => ∃ (q : Bool × Addr) (xs : List V), x = .ref q.2 ∧ SqH H q xs ∧ ∀ p H2, Ex H H2 → SqH H2 (q.1, p) (cutV xs lo hi) → Q (.ref p) H2
theorem sl_q {X : Cx} : SlR X rSlQ := by
  intro pins s σ H x v vl vu lo hi sl Q I rx hs pl pu h
  obtain ⟨⟨b, a⟩, xs, rfl, hq, k⟩ := h
  cases b
  · exact sl_list pins s σ H _ v vl vu lo hi sl Q I rx hs pl pu ⟨a, xs, rfl, SqL.of (show H a = some (.lst xs) from hq), fun p hp => k p _ (exn hp) upd_same⟩
  · exact sl_tupA pins s σ H _ v vl vu lo hi sl Q I rx hs pl pu ⟨a, xs, rfl, SqT.of (show H a = some (.tup xs) from hq), fun hw => k a H exr (by rw [cut_whole hw]; exact hq), fun _ p hp => k p _ (exn hp) upd_same⟩

/-- a list (false) or a tuple (true) of tuples of ints -/
def RowsQ (H : Hp) (q : Bool × Addr) (tss : List (List Int)) : Prop := ∃ xs, SqH H q xs ∧ RowsR H xs tss
theorem RowsQ.mono {H H2 : Hp} {q : Bool × Addr} {tss : List (List Int)} (e : Ex H H2) (h : RowsQ H q tss) : RowsQ H2 q tss := by
  obtain ⟨xs, h1, h2⟩ := h
  exact ⟨xs, h1.mono e, h2.mono e⟩
theorem RowsQ.dp {K : PySem.W.Frag} {H : Hp} {q : Bool × Addr} {tss : List (List Int)} (h : RowsQ H q tss) : Dp K H (.ref q.2) (.list (tss.map iT)) ∨ Dp K H (.ref q.2) (.tuple (tss.map iT)) := by
  obtain ⟨xs, h1, h2⟩ := h
  obtain ⟨b, a⟩ := q
  cases b
  · exact .inl (.lst (SqL.of (show H a = some (.lst xs) from h1)) h2.dp)
  · exact .inr (.tup (SqT.of (show H a = some (.tup xs) from h1)) h2.dp)
theorem any_rows (tss : List (List Int)) (ps : List Int) : ((tss.map iT).any fun z => PyData.eqv z (iT ps)) = decide (ps ∈ tss) := by
  rw [List.any_map, Bool.eq_iff_iff, List.any_eq_true, decide_eq_true_eq]
  constructor
  · rintro ⟨x, hx, h⟩
    have h2 : PyData.eqv (iT x) (iT ps) = true := h
    rw [eqv_ints] at h2
    rw [← of_decide_eq_true h2]
    exact hx
  · intro h
    refine ⟨ps, h, ?_⟩
    show PyData.eqv (iT ps) (iT ps) = true
    rw [eqv_ints]
    simp
abbrev kI (ps : List Int) : List Key := ps.map Sum.inl
theorem kI_map (ps : List Int) : (kI ps).map kV = ps.map V.int := by
  rw [List.map_map]
  rfl
theorem kI_inj {a b : List Int} (h : kI a = kI b) : a = b := by
  induction a generalizing b with
  | nil =>
    cases b with
    | nil => rfl
    | cons y ys => simp at h
  | cons x xs ih =>
    cases b with
    | nil => simp at h
    | cons y ys =>
      simp only [List.map_cons, List.cons.injEq, Sum.inl.injEq] at h
      rw [h.1, ih h.2]
theorem nodup_get {α : Type} {l : List α} (nod : l.Nodup) {i : Nat} {t : α} (ht : l[i]? = some t) : ¬ t ∈ l.take i := by
  intro hm
  obtain ⟨j, hj⟩ := List.getElem?_of_mem hm
  obtain ⟨jl, je⟩ := List.getElem?_eq_some_iff.mp hj
  rw [List.length_take] at jl
  rw [List.getElem_take] at je
  obtain ⟨il, ie⟩ := List.getElem?_eq_some_iff.mp ht
  exact absurd (je.trans ie.symm) (List.pairwise_iff_getElem.mp nod j i (by omega) il (by omega))
theorem put_len {κ : Type} [DecidableEq κ] {kvs : List (κ × V)} {k : κ} {v : V} (h : valV kvs k = none) : (putK kvs k v).length = kvs.length + 1 := by
  rw [putK_new v h, List.length_append]
  rfl
section
variable {P : Program} {w : World} {K : PySem.W.Frag} {mg : Str → Option Value} {base : Heap}
def sp_require_table (C : Addr) : Sp := fun vs H Q _ => ∃ (a : Addr) (ns : List Int), vs = [.ref a] ∧ TabAt C H a ns ∧ Q .non H
theorem ok_require_table (T : TX K mg) : FnOk P w K mg base CX0 5 T.f_require_table T.fd_require_table ["table"] (sp_require_table T.C_Table) := by
  refine T.F_require_table.ok sc_require_table (fun vs H Q E h => ?_) (fun cdv A outer s H vs Q E hr h => ?_)
  · obtain ⟨a, ns, rfl, _⟩ := h
    rfl
  · obtain ⟨a, ns, rfl, ⟨dx, t, h1, h2⟩, k⟩ := h
    refine ⟨_, (pss_one (ps_if (pt_not (pt_val (pe_callB call_isi (by rfl) T.z_isinstance (by decide +kernel) (pa_cons (pv 0) (pa_cons (pe_glob (v := .ref T.C_Table) rfl T.m_Table rfl) pa_nil))))) pss_never pss_nil)), ?_⟩
    exact ⟨_, rfl, _, _, _, _, true, rfl, .own _, .base (.ins h1 T.cl_Table T.ic_Table T.ig_ T.it_ T.im_Table), kit_self, _, rfl, itf rfl k⟩
def sp_require_targets (C : Addr) : Sp := fun vs H Q _ => ∃ (a : Addr) (q : Bool × Addr) (ns : List Int) (tss : List (List Int)), vs = [.ref a, .ref q.2] ∧ TabAt C H a ns ∧ ns.length ≤ 4 ∧ RowsQ H q tss ∧ tss ≠ [] ∧ tss.length ≤ 100000 ∧ (∀ ts ∈ tss, SeatOk ns ts) ∧ tss.Nodup ∧ ∀ H2, Ex H H2 → Q .non H2
theorem ok_require_targets (T : TX K mg) : FnOk P w K mg base CX0 4 T.f_require_targets T.fd_require_targets ["table", "targets"] (sp_require_targets T.C_Table) := by
  refine T.F_require_targets.ok sc_require_targets (fun vs H Q E h => ?_) (fun cdv A outer s H vs Q E hr h => ?_)
  · obtain ⟨a, q, ns, tss, rfl, _⟩ := h
    rfl
  · obtain ⟨a, ⟨b, q⟩, ns, tss, rfl, tab, l4, ⟨xs, hq, rr⟩, ne, lts, sks, nod, k⟩ := h
    refine ⟨_, (pss_cons (ps_if (PW.pt (pw_or (pt_not (pt_val (pe_callB call_isiT (by rfl) T.z_isinstance (by decide +kernel) (pa_cons (pv 1) (pa_cons (pe_tup (pa_cons (pe_bltn (v := .ty "list") rfl T.z_list (by decide +kernel) rfl) (pa_cons (pe_bltn (v := .ty "tuple") rfl T.z_tuple (by decide +kernel) rfl) pa_nil))) pa_nil))))) (pw_or1 (pt_cmpR op_eq (pe_callB call_len_seq (by rfl) T.z_len (by decide +kernel) (pa_cons (pv 1) pa_nil)) pe_int (nomark _))))) pss_never pss_nil) (pss_cons (ps_set (i := 2) sc_require_targets.nd rfl (Or.inl rfl) pe_dnewT) (pss_one (ps_for PassesOwn.never rfl (CE.pi_e rfl T.z_enumerate (pa_cons (pv 1) pa_nil)) (pg_tup rfl (pgs_cons (pg_name (i := 3) sc_require_targets.nd rfl (Or.inl rfl)) (pgs_cons (pg_name (i := 4) sc_require_targets.nd rfl (Or.inl rfl)) pgs_nil))) (pss_cons (ps_if (PW.pt (pw_or (pt_not (pt_val (pe_meth (pv 0) T.cl_Table T.me_Table_is_seat (ok_Table_is_seat T) hr T.b_Table_is_seat .nil pass0 (pa_cons (pv 4) pa_nil)))) (pw_or1 (pt_cmp (pc_din (hu_of hr) (pv 4) (pv 2)))))) pss_never pss_nil) (pss_one (ps_dput (hu_of hr) (pv 2) (pv 4) (pv 3) (by rfl)))))))), ?_⟩
    have lx := rr.len
    (repeat (first | refine ⟨rfl, ?_⟩ | refine ⟨_, rfl, ?_⟩ | refine ⟨_, _, rfl, rfl, ?_⟩ | refine ⟨_, _, rfl, ?_⟩ | refine ⟨slen rfl, ?_⟩ | refine ⟨⟨by decide, by decide +kernel⟩, ?_⟩ | refine ⟨⟨by decide, by decide, by decide⟩, ?_⟩ | refine ⟨(by show (0 : Int) < _; first | decide | assumption | omega), ?_⟩ | refine ⟨mul_ok (by first | exact .inr (by decide) | exact .inl (by decide)), ?_⟩))
    (intro y ny; generalize hGy : upd _ y _ = H1; have eH1 := exG hGy ny; have hy := atG hGy; clear hGy)
    have q1 := hq.mono eH1
    refine ⟨_, y, _, _, _, true, rfl, hy, .cons (.ty _) (.cons (.ty _) .nil), q1.ty, kit_seq b, _, rfl, ?_⟩
    refine ⟨_, rfl, q, _, rfl, sq_or q1, rfl, _, rfl, itf (by rw [dec_int, lx]; simp; exact ne) ?_⟩
    (intro d nd; generalize hGd : upd _ d _ = H2; have eH2 := exG hGd nd; have hd := atG hGd; clear hGd)
    have e2 : Ex H H2 := ext eH1 eH2
    have nd0 : H d = none := Evl.fresh_back eH1 nd
    refine ⟨_, rfl, (b, q), rfl, ⟨_, (hq.mono e2).sq⟩, ?_⟩
    refine for_it (CE.walk_e (xs := xs)) (fun i σ H3 => ∃ (y3 y4 : Option V) (kvs : List (List Key × V)), σ = [some (.ref a), some (.ref q), some (.ref d), y3, y4] ∧ Ex H H3 ∧ H3 d = some (.dT kvs) ∧ kvs.length = i ∧ ∀ ts : List Int, (valV kvs (kI ts)).isSome = true → ts ∈ tss.take i) ⟨_, _, [], rfl, e2, hd, rfl, fun t h => by simp [valV] at h⟩ (fun i σ H2 _ ⟨_, _, _, _, e, _⟩ => (hq.mono e).sq) ?_ ?_
    · rintro i x σ H3 H4 hi ⟨y3, y4, kvs, rfl, e3, hd3, lk, hv⟩ ⟨Ta, x1, x2, rfl, hT, rfl, hx1, hx2⟩
      cases hx1
      obtain ⟨ts, r, ht, rfl, hr0⟩ := rr.get hx2
      have sk := sks ts (List.mem_of_getElem? ht)
      have lt := sk.len
      have e4 : Ex H (upd H3 Ta (.tup [.int (i : Nat), .ref r])) := ext e3 (exn hT)
      have hd4 := exn (o := .tup [.int (i : Nat), .ref r]) hT _ _ hd3
      refine ⟨Ta, _, rfl, SqT.of upd_same, rfl, _, _, rfl, _, _, rfl, rfl, ?_⟩
      generalize upd H3 Ta (.tup [.int (i : Nat), .ref r]) = H4 at e4 hd4
      obtain ⟨dx, t, g1, g2⟩ := tab.mono e4
      refine ⟨_, rfl, a, dx, _, rfl, g1, rfl, _, rfl, a, _, ns, _, rfl, tab.mono e4, l4, TupA.ints (e4 _ _ hr0) (by omega), fun H5 e5 => ?_⟩
      refine ⟨_, rfl, itf (by rw [isSeat_ok sk]; rfl) ?_⟩
      have hno : valV kvs (kI ts) = none := by
        cases hz : valV kvs (kI ts) with
        | none => rfl
        | some v => exact absurd (hv ts (by rw [hz]; rfl)) (nodup_get nod ht)
      have hd5 := e5 _ _ hd4
      have hr5 : H5 r = some (.tup ((kI ts).map kV)) := by rw [kI_map]; exact e5 _ _ (e4 _ _ hr0)
      refine ⟨_, rfl, _, rfl, d, _, rfl, DGet.t hd5 hr5, _, rfl, itf (by rw [hno]; rfl) ?_⟩
      refine ⟨_, rfl, _, rfl, _, rfl, d, _, rfl, DPut.t hd5 hr5 ?_, ?_⟩
      · rw [lk]
        exact Nat.lt_of_lt_of_le (show i < tss.length by omega) (Nat.le_trans lts (by decide))
      · refine ⟨_, _, putK kvs (kI ts) (.int (i : Nat)), rfl, ?_, upd_same, by rw [put_len hno, lk], fun us hu => ?_⟩
        · intro c o z
          rw [upd_ne (ne_of_none z nd0)]
          exact e5 c o (e4 c o z)
        · rw [valV_put] at hu
          rw [take_more ht, List.mem_append]
          by_cases e : us = ts
          · exact .inr (by rw [e]; exact List.mem_cons_self)
          · rw [if_neg (fun z => e (kI_inj z))] at hu
            exact .inl (hv us hu)
    · rintro σ H2 ⟨y3, y4, kvs, rfl, e3, _⟩
      exact k _ e3
end

-- sorts
open PySem.W PySem.Calls in
theorem collect_tuple {prog : Program} {w : World} {A : Around} {E : Value → Shared → Prop} {s : Shared} {l : Addr} {vs : List Value} {Q : List Value → Shared → Prop} (hl : IsTup s.heap l vs.toArray)
    (h : Q vs { s with heap := (s.heap.push (seqObj "list" #[] 0)).update s.heap.objs.size (Obj.mapSeq (· ++ vs.toArray)) }) (hsz : vs.length ≤ sizeLine) :
    wpAny (model prog w) A (collect (.ref l)) Q E s := by
  obtain ⟨o, ho, hc, n, hd⟩ := id hl
  unfold collect
  refine wpAny_bind (wpAny_runValue (codeAny_builtin entry_proto_collect' ?_))
  show wpAny _ _ (do again (.builtin "list.__iadd__" ⟨[← newList [], .ref l], []⟩)) _ _ s
  refine wpAny_bind (wpAny_newList (wpAny_pure ⟨Code.quiet_builtin _ (by decide +kernel), codeAny_builtin entry_list_iadd' ?_⟩))
  show wpAny _ _ (Builtin.List.listExtendWith (.ref s.heap.objs.size) (.ref l) (.ref s.heap.objs.size)) _ _ { s with heap := s.heap.push (seqObj "list" #[] 0) }
  unfold Builtin.List.listExtendWith
  have ho' : (s.heap.push (seqObj "list" #[] 0)).get? l = some o := Heap.get?_push_of_some _ ho
  refine wpAny_bind (wpAny_typeOf (T := "tuple") ⟨o, ho', hc⟩ ?_)
  have ht : (Value.type "tuple" == Value.type "tuple") = true := by rfl
  rw [if_pos (by rw [ht]; simp)]
  refine wpAny_bind (listItems_at ho' hd ?_)
  refine wpAny_bind (listItems_at (xs := #[]) (n := 0) (Heap.get?_push_size _ rfl) rfl ?_)
  rw [if_neg (by simp)]
  refine wpAny_bind (listUpdate_at (xs := #[]) (n := 0) (Heap.get?_push_size _ rfl) rfl ?_ (Nat.zero_le _) (by show (#[] ++ vs.toArray).size ≤ sizeLine + 1; simp only [Array.size_append, List.size_toArray, List.length_nil]; omega))
  refine wpAny_pure ?_
  show wpAny (model prog w) A (do
      let o ← load s.heap.objs.size
      match o.data with
      | .seq xs _ => pure xs.toList
      | _ => unsupported "internal:collect") Q E { s with heap := (s.heap.push (seqObj "list" #[] 0)).update s.heap.objs.size (Obj.mapSeq (· ++ vs.toArray)) }
  refine wpAny_bind (wpAny_load (get?_update_seq (Heap.get?_push_size _ rfl) _) ?_)
  show wpAny _ _ (pure ((#[] : Array Value) ++ vs.toArray).toList) Q E _
  rw [show ((#[] : Array Value) ++ vs.toArray).toList = vs by simp]
  exact wpAny_pure h
open PySem.W PySem.Calls in
theorem sorted_of_tup {prog : Program} {w : World} {A : Around} {E : Value → Shared → Prop} {s : Shared} {l : Addr} {vs : List Value} {Q : Value → Shared → Prop} (hl : IsTup s.heap l vs.toArray) (hL : vs.length ≤ sizeLine)
    (body : ∀ E' : Value → Shared → Prop, wpAny (model prog w) A.in1.in1 (Builtin.«list.sort» ⟨[.ref (s.heap.objs.size + 1)], []⟩) (fun f s' => f = .done (.ret .none) ∧ Q (.ref (s.heap.objs.size + 1)) s') E' { s with heap := copyHeap s.heap vs }) :
    wpAny (model prog w) A (call (.builtin "sorted") [.ref l]) Q E s := by
  refine call_function_entry_kw kind_sorted plain_sorted entry_sorted (args_sorted1 _) ?_
  unfold Builtin.«sorted»
  refine wpAny_bind (m := checkCount "sorted" 1 1 _) (wpAny_pure ?_)
  refine wpAny_bind (collect_tuple hl ?_ hL)
  refine wpAny_bind (wpAny_newList ?_ hL)
  have hsz : ((s.heap.push (seqObj "list" #[] 0)).update s.heap.objs.size (Obj.mapSeq (· ++ vs.toArray))).objs.size = s.heap.objs.size + 1 := by
    rw [Heap.size_update, size_push']
  show wpAny _ _ _ _ _ { s with heap := copyHeap s.heap vs }
  rw [hsz]
  refine wpAny_bind (wpAny_holding (wpAny_call_entry_kw slot_list_sort ⟨_, copyHeap_at s.heap vs, rfl⟩ entry_list_sort ?body (args_list_sort _)))
  case body =>
    show wpAny (model prog w) A.in1.in1 (Builtin.«list.sort» ⟨[.ref (s.heap.objs.size + 1)], []⟩) _ _ _
    refine wpAny_mono (body _) (fun f s' hf => ?_) fun _ _ e => e
    obtain ⟨rfl, hq⟩ := hf
    exact ⟨_, rfl, wpAny_pure ⟨_, rfl, hq⟩⟩
open PySem.W PySem.Calls in
theorem sorted_data_t {prog : Program} {w : World} {A : Around} {E : Value → Shared → Prop} {s : Shared} {β : Type} {vs : List Value} {bs : List β} {enc : β → PyData} {R : Value → β → Prop} {l : Addr} {Q : Value → Shared → Prop} (hl : IsTup s.heap l vs.toArray) (e : EachIs R vs bs) (er : EachIs (fun v b => ∃ as, Reads s.heap v (enc b) as) vs bs) (hal : AllAlike (bs.map enc)) (hk : Sortable (bs.map enc)) (hL : bs.length ≤ sizeLine)
    (hu : ∀ b, b ∈ bs → A.units + 2 + (enc b).depth < cLine) (h : ∀ out, out.length = bs.length → EachIs R out (bs.mergeSort (dataLe false enc)) → Q (.ref (s.heap.objs.size + 1)) { s with heap := sortedAll s.heap vs (List.toArray out) }) :
    wpAny (model prog w) A (call (.builtin "sorted") [.ref l]) Q E s := by
  have er' : EachIs (fun v b => ∃ as, Reads (sortingHeap (copyHeap s.heap vs) (s.heap.objs.size + 1) vs) v (enc b) as) vs bs := er.mono fun _ _ ⟨as, r⟩ => ⟨as, PyProof.Rows.Reads.keeps (fun _ _ => sorting_copy_old) r⟩
  have hL' : vs.length ≤ sizeLine := by rw [e.length]; exact hL
  exact sorted_of_tup hl hL' fun _ => list_sort_vals (s := { s with heap := copyHeap s.heap vs }) (copyHeap_at s.heap vs) (SortsAt.data (s := { s with heap := sortingHeap (copyHeap s.heap vs) (s.heap.objs.size + 1) vs }) (each_map (R := fun v d => ∃ as, Reads (sortingHeap (copyHeap s.heap vs) (s.heap.objs.size + 1) vs) v d as) enc er') hal hk (bound_map hu)) hL' ⟨rfl, h _ (by rw [sortVals_length false rfl]; exact e.length) (sortVals_data false e er' hal)⟩
/-- the order of tuples of ints -/
def leT (a b : List Int) : Bool := PySem.W.dataLe false iT a b
/-- sorted(q), q a list or tuple of tuples of ints -/
def rSortQ (K : PySem.W.Frag) : List V → Hp → VK → Prop := fun vs H Q => ∃ (q : Bool × Addr) (xs : List V) (tss : List (List Int)), vs = [V.ref q.2] ∧ CZ.SqK K H q xs ∧ RowsR H xs tss ∧ (∀ ts ∈ tss, ts ≠ []) ∧
  ∀ (ys : List V) (p : Addr), RowsR H ys (tss.mergeSort leT) → H p = none → Q (.ref p) (upd H p (.lst ys))
open PySem.W in
theorem each_rows {H : Hp} : ∀ {xs : List V} {tss : List (List Int)} {us : List Value}, RowsR H xs tss → Vals xs us → EachIs (fun (u : Value) (ts : List Int) => ∃ t, u = Value.ref t ∧ H t = some (.tup (ts.map V.int))) us tss
  | _, _, _, .nil, .nil => .nil
  | _, _, _, .cons ⟨r, e, h⟩ t, .cons rv tv => by
    subst e
    cases rv
    exact .cons ⟨r, rfl, h⟩ (each_rows t tv)
open PySem.W in
theorem rows_each {H : Hp} : ∀ {us : List Value} {tss : List (List Int)}, EachIs (fun (u : Value) (ts : List Int) => ∃ t, u = Value.ref t ∧ H t = some (.tup (ts.map V.int))) us tss → ∃ ys, RowsR H ys tss ∧ Vals ys us
  | _, _, .nil => ⟨[], .nil, .nil⟩
  | _, _, .cons ⟨t, e, h⟩ r => by
    subst e
    obtain ⟨ys, h1, h2⟩ := rows_each r
    exact ⟨.ref t :: ys, .cons ⟨t, rfl, h⟩ h1, .cons rfl h2⟩
open PySem.W in
theorem each_dp {X : Cx} {pins : List (Addr × Obj)} {σ : L2.St} {H : Hp} {s : Shared} (I : Inv X pins σ H s) : ∀ {us : List Value} {tss : List (List Int)}, EachIs (fun (u : Value) (ts : List Int) => ∃ t, u = Value.ref t ∧ H t = some (.tup (ts.map V.int))) us tss → EachIs (fun v b => ∃ as, Reads s.heap v (iT b) as) us tss
  | _, _, .nil => .nil
  | _, _, .cons ⟨t, e, h⟩ r => by
    subst e
    exact .cons (Dp.reads I _ (.ref t) _ (dp_ints h) rfl) (each_dp I r)
theorem alike_iT (a b : List Int) : PySem.W.alike (iT a) (iT b) = true := by
  show PySem.W.alike (.tuple (a.map .int)) (.tuple (b.map .int)) = true
  rw [PySem.W.alike]
  exact PySem.W.alike_ints a b
theorem cr_sortQ {X : Cx} (hu : X.A.units + 65 < cLine) : CallR X (.builtin "sorted") (rSortQ X.K) := by
  intro pins s σ H vs us Q I r h
  obtain ⟨⟨b, a⟩, xs, tss, rfl, hs, rr, ne, q⟩ := h
  rw [Vals.ref1 r]
  have hk : PySem.W.Sortable (tss.map iT) := .inl fun d hd => by
    obtain ⟨ts, ht, rfl⟩ := List.mem_map.mp hd
    cases ts with
    | nil => exact absurd rfl (ne _ ht)
    | cons x l => exact ⟨_, _, rfl⟩
  have hU : ∀ ts, ts ∈ tss → X.A.units + 2 + (iT ts).depth < cLine := fun ts _ => by
    have e := PySem.W.depth_ints ts
    have : (iT ts).depth = 1 := by
      show PyData.depth (.tuple (ts.map .int)) = 1
      simp only [PyData.depth, e]
    omega
  have fin : ∀ its : List Value, Vals xs its → xs.length ≤ sizeLine → ∀ out, out.length = tss.length → PySem.W.EachIs (fun (u : Value) (ts : List Int) => ∃ t, u = Value.ref t ∧ H t = some (.tup (ts.map V.int))) out (tss.mergeSort (PySem.W.dataLe false iT)) → EP X pins σ Q (.ref (s.heap.objs.size + 1)) { s with heap := sortedAll s.heap its (List.toArray out) } := by
    intro its rv hz out lo eo
    obtain ⟨ys, h1, h2⟩ := rows_each eo
    obtain ⟨ep, he'⟩ := PyProof.Rows.sortedAll_at s.heap its (List.toArray out)
    have hlen : ys.length ≤ sizeLine := by
      rw [h2.length, lo, ← Paired.length rr]
      exact hz
    exact ⟨.ref _, upd H (s.heap.objs.size + 1) (.lst ys), I.laid (t' := s.toks) (fun _ _ => PyProof.Rows.sortedAll_old) (Nat.le_succ _) ⟨hlen, out, ep, h2, he'⟩, rfl, q ys _ h1 (I.hok.fresh (Nat.le_succ _))⟩
  have hal : PySem.W.AllAlike (tss.map iT) := PySem.W.AllAlike.of alike_iT
  cases b with
  | false =>
    obtain ⟨its, rv, hl, hz⟩ := I.list (show SqL X.K H a xs from hs)
    have e := each_rows rr rv
    exact PySem.W.sorted_data (enc := iT) hl.isList e (each_dp I e) hal hk (by rw [← Paired.length rr]; exact hz) hU (fin its rv hz)
  | true =>
    obtain ⟨its, rv, hl, hz⟩ := I.tuple (show SqT X.K H a xs from hs)
    have e := each_rows rr rv
    exact sorted_data_t (enc := iT) hl e (each_dp I e) hal hk (by rw [← Paired.length rr]; exact hz) hU (fin its rv hz)

theorem ifs_ex {c : TT} {t u : TS} {D : Ends} {σ : L2.St} {H : Hp} (h : ∀ N : L2.St → Hp → Prop, (∀ H2, Ex H H2 → N σ H2) → tIfS c t u { D with nx := N } σ H) (hR : ∀ H2, Ex H H2 → D.nx σ H2) : tIfS c t u D σ H :=
  ifs_cutG (fun σ2 H2 => σ2 = σ ∧ Ex H H2) (by rintro σ2 H2 ⟨rfl, e⟩; exact hR H2 e) (fun N hN => h N fun H2 e => hN σ H2 ⟨rfl, e⟩)
theorem sif_ex {c : TT} {t u r : TS} {D : Ends} {σ : L2.St} {H : Hp} (h : ∀ N : L2.St → Hp → Prop, (∀ H2, Ex H H2 → N σ H2) → tIfS c t u { D with nx := N } σ H) (hR : ∀ H2, Ex H H2 → r D σ H2) : tSeq (tIfS c t u) r D σ H :=
  ifs_ex (D := { D with nx := r D }) h hR

open CD
/-- a source of draws stands at s -/
def Src (H : Hp) (s : Addr) : Prop := ∃ a b c : Int, H s = some (.lst [.int a, .int b, .int c])
theorem Src.mono {s : Addr} {H H2 : Hp} (e : Ex H H2) (h : Src H s) : Src H2 s := by
  obtain ⟨a, b, c, h⟩ := h
  exact ⟨a, b, c, e _ _ h⟩
theorem Src.ne {s p : Addr} {H : Hp} (h : Src H s) (hp : H p = none) : p ≠ s := by
  obtain ⟨a, b, c, h⟩ := h
  exact (ne_of_none h hp).symm
theorem Src.new {s p : Addr} {H : Hp} {o : HO} (h : Src H s) (hp : H p = none) : Src (upd H p o) s := Src.mono (exn hp) h

section
variable {P : Program} {w : World} {K : PySem.W.Frag} {mg : Str → Option Value} {base : Heap}
def sp_law_mix : Sp := fun vs H Q _ => ∃ c d : Int, vs = [.int c, .int d] ∧ ∀ r : Int, 0 ≤ r → r < 2147483563 → Q (.int r) H
theorem ok_law_mix (T : TX K mg) : FnOk P w K mg base CX0 1 T.f_law_mix T.fd_law_mix ["_law_cell", "_law_turn"] sp_law_mix := by
  refine T.F_law_mix.ok sc_law_mix (fun vs H Q E h => ?_) (fun cdv A outer s H vs Q E hr h => ?_)
  · obtain ⟨c, d, rfl, _⟩ := h
    rfl
  · obtain ⟨c, d, rfl, k⟩ := h
    refine ⟨_, (pss_cons (ps_set (i := 2) sc_law_mix.nd rfl (Or.inl rfl) (pe_op op_add (pe_op op_mod (pv 0) pe_int) (pe_op op_mulI (pe_op op_mod (pe_op op_fdivW (pv 0) pe_int) pe_int) pe_int))) (pss_cons (ps_set (i := 2) sc_law_mix.nd rfl (Or.inl rfl) (pe_op op_mod (pe_op op_mulI (pe_op op_add (pe_op op_add (pv 2) (pe_op op_mulI pe_int (pv 1))) pe_int) pe_int) pe_int)) (pss_cons (ps_set (i := 2) sc_law_mix.nd rfl (Or.inl rfl) (pe_op op_mod (pe_op op_mulI (pv 2) (pe_op op_add (pe_op op_add (pe_op op_fdivW (pv 2) pe_int) pe_int) (pv 1))) pe_int)) (pss_one (ps_ret (pe_op op_mod (pe_op op_mulI (pv 2) (pe_op op_add (pe_op op_fdivW (pv 2) pe_int) pe_int)) pe_int)))))), ?_⟩
    have a1 := mod_lo (i := c) (n := 2147483647) (by decide)
    have a2 := mod_hi (i := c) (n := 2147483647) (by decide)
    have b1 := mod_lo (i := c / 2147483647) (n := 1000003) (by decide)
    have b2 := mod_hi (i := c / 2147483647) (n := 1000003) (by decide)
    refine ⟨_, rfl, _, _, rfl, rfl, (by show (0 : Int) < _; decide), _, rfl, _, _, rfl, rfl, ⟨by decide, by decide +kernel⟩, _, _, rfl, rfl, (by show (0 : Int) < _; decide), _, _, rfl, rfl, mul_ok (.inr (by decide)), _, _, rfl, rfl, ?_⟩
    generalize c % 2147483647 + c / 2147483647 % 1000003 * 7919 = n0
    refine ⟨_, rfl, _, rfl, _, _, rfl, rfl, mul_ok (.inl (by decide)), _, _, rfl, rfl, _, _, rfl, rfl, _, _, rfl, rfl, mul_ok (.inr (by decide)), _, _, rfl, rfl, (by show (0 : Int) < _; decide), ?_⟩
    have c1 := mod_lo (i := (n0 + 15485863 * d + 104729) * 48271) (n := 2147483629) (by decide)
    have c2 := mod_hi (i := (n0 + 15485863 * d + 104729) * 48271) (n := 2147483629) (by decide)
    generalize (n0 + 15485863 * d + 104729) * 48271 % 2147483629 = n2 at c1 c2
    refine ⟨_, rfl, _, rfl, _, _, rfl, rfl, ⟨by decide, by decide +kernel⟩, _, _, rfl, rfl, _, rfl, _, _, rfl, rfl, _, _, rfl, rfl, mul_ok (.inl (by omega)), _, _, rfl, rfl, (by show (0 : Int) < _; decide), ?_⟩
    have d1 := mod_lo (i := n2 * (n2 / 1009 + 69621 + d)) (n := 2147483587) (by decide)
    have d2 := mod_hi (i := n2 * (n2 / 1009 + 69621 + d)) (n := 2147483587) (by decide)
    generalize n2 * (n2 / 1009 + 69621 + d) % 2147483587 = n3 at d1 d2
    exact ⟨_, rfl, _, rfl, _, _, rfl, rfl, ⟨by decide, by decide +kernel⟩, _, _, rfl, rfl, _, _, rfl, rfl, mul_ok (.inl (by omega)), _, _, rfl, rfl, (by show (0 : Int) < _; decide), k _ (mod_lo (by decide)) (mod_hi (by decide))⟩
def sp_law_source : Sp := fun vs H Q _ => ∃ c : Int, vs = [.int c] ∧ ∀ H2 s, Ex H H2 → H s = none → Src H2 s → Q (.ref s) H2
theorem ok_law_source (T : TX K mg) : FnOk P w K mg base CX0 1 T.f_law_source T.fd_law_source ["_law_cell"] sp_law_source := by
  refine T.F_law_source.ok sc_law_source (fun vs H Q E h => ?_) (fun cdv A outer s H vs Q E hr h => ?_)
  · obtain ⟨c, rfl, _⟩ := h
    rfl
  · obtain ⟨c, rfl, k⟩ := h
    refine ⟨_, (pss_one (ps_ret (pe_lst (pa_cons (pe_op op_mulI (pe_callB call_abs (by rfl) T.z_abs (by decide +kernel) (pa_cons (pv 0) pa_nil)) (pe_callTy call_int1 (by rfl) T.z_int (by decide +kernel) (pa_cons (pe_cmpR op_ge (pe_callB call_abs (by rfl) T.z_abs (by decide +kernel) (pa_cons (pv 0) pa_nil)) (pe_op op_pow pe_int pe_int) (nomark _)) pa_nil))) (pa_cons (pe_callB call_abs (by rfl) T.z_abs (by decide +kernel) (pa_cons (pv 0) pa_nil)) (pa_cons pe_int pa_nil)))))), ?_⟩
    refine ⟨_, rfl, _, rfl, _, rfl, _, rfl, _, _, rfl, rfl, ⟨by decide, by decide, by decide⟩, _, _, rfl, rfl, .inr ⟨_, rfl, _, _, rfl, rfl, mul_ok (.inr ?_), _, rfl, _, rfl, (by show 3 ≤ sizeLine; decide), fun s hs => k _ s (exn hs) hs ⟨_, _, 0, upd_same⟩⟩⟩
    have hb : ∀ b : Bool, (-2 ^ 64 < (if b = true then (1 : Int) else 0)) ∧ (if b = true then (1 : Int) else 0) < 2 ^ 64 := by decide
    exact hb _
def sp_law_draw : Sp := fun vs H Q _ => ∃ (s : Addr) (n : Int), vs = [.ref s, .int n] ∧ Src H s ∧ 0 < n ∧ n.natAbs < 2 ^ 8000 ∧ ∀ r H2, 0 ≤ r → r < n → XB s H H2 → Src H2 s → Q (.int r) H2
theorem ok_law_draw (T : TX K mg) : FnOk P w K mg base CX0 2 T.f_law_draw T.fd_law_draw ["_law_source_here", "_law_limit"] sp_law_draw := by
  refine T.F_law_draw.ok sc_law_draw (fun vs H Q E h => ?_) (fun cdv A outer s H vs Q E hr h => ?_)
  · obtain ⟨s, n, rfl, _⟩ := h
    rfl
  · obtain ⟨s, n, rfl, ⟨a, b, c, hs⟩, h0, hb, k⟩ := h
    refine ⟨_, (pss_cons (ps_if (pt_cmpR op_gt (pe_ix ix_list (pv 0) pe_int (fun _ _ => rfl)) pe_int (nomark _)) (pss_cons (ps_set (i := 2) sc_law_draw.nd rfl (Or.inl rfl) (pe_op op_mod (pe_ix ix_list (pv 0) pe_int (fun _ _ => rfl)) (pv 1))) (pss_cons (ps_asg (pe_op op_fdivW (pe_ix ix_list (pv 0) pe_int (fun _ _ => rfl)) (pv 1)) (pg_sub (pv 0) pe_int set_list)) (pss_one (ps_ret (pv 2))))) pss_nil) (pss_cons (ps_asg (pe_op op_add (pe_ix ix_list (pv 0) pe_int (fun _ _ => rfl)) pe_int) (pg_sub (pv 0) pe_int set_list)) (pss_one (ps_ret (pe_op op_mod (pe_call (ok_law_mix T) hr rfl T.m_law_mix T.F_law_mix.kp T.b_law_mix .nil pass0 (pa_cons (pe_ix ix_list (pv 0) pe_int (fun _ _ => rfl)) (pa_cons (pe_ix ix_list (pv 0) pe_int (fun _ _ => rfl)) pa_nil))) (pv 1)))))), ?_⟩
    refine ⟨_, rfl, s, _, _, _, rfl, rfl, SqL.of hs, rfl, _, _, rfl, rfl, _, rfl, ?_⟩
    refine ite2 (fun _ => ?_) (fun _ => ?_)
    · refine ⟨_, rfl, s, _, _, _, rfl, rfl, SqL.of hs, rfl, _, rfl, _, _, rfl, rfl, h0, ?_⟩
      refine ⟨_, rfl, s, _, _, _, rfl, rfl, SqL.of hs, rfl, _, rfl, _, _, rfl, rfl, wide_div h0 hb (by decide) (by decide), _, rfl, s, _, _, 0, rfl, rfl, hs, rfl, ?_⟩
      exact ⟨_, rfl, k _ _ (mod_lo h0) (mod_hi h0) XB.upd ⟨_, _, _, upd_same⟩⟩
    · refine ⟨_, rfl, s, _, _, _, rfl, rfl, SqL.of hs, rfl, _, _, rfl, rfl, _, rfl, s, _, _, 2, rfl, rfl, hs, rfl, ?_⟩
      refine ⟨_, rfl, s, _, _, _, rfl, rfl, SqL.of upd_same, rfl, _, rfl, s, _, _, _, rfl, rfl, SqL.of upd_same, rfl, _, _, rfl, fun r _ _ => ?_⟩
      exact ⟨_, rfl, _, _, rfl, rfl, h0, k _ _ (mod_lo h0) (mod_hi h0) XB.upd ⟨_, _, _, upd_same⟩⟩
end

/-- all seats, in ascending order -/
def crossS (hss : List (List Int)) (n : Int) : List (List Int) := hss.flatMap fun hs => (List.range n.toNat).map fun (i : Nat) => hs ++ [(i : Int)]
def allS (ns : List Int) : List (List Int) := ns.foldl crossS [[]]
theorem allS_snoc (ns : List Int) (n : Int) : allS (ns ++ [n]) = crossS (allS ns) n := by
  unfold allS
  rw [List.foldl_append]
  rfl
theorem crossS_snoc (hss : List (List Int)) (hs : List Int) (n : Int) : crossS (hss ++ [hs]) n = crossS hss n ++ (List.range n.toNat).map fun (i : Nat) => hs ++ [(i : Int)] := by
  unfold crossS
  rw [List.flatMap_append]
  simp
theorem crossS_len (n : Int) : ∀ hss : List (List Int), (crossS hss n).length = hss.length * n.toNat
  | [] => by simp [crossS]
  | h :: hss => by
    have ih := crossS_len n hss
    unfold crossS at ih ⊢
    rw [List.flatMap_cons, List.length_append, ih, List.length_map, List.length_range, List.length_cons, Nat.succ_mul, Nat.add_comm]
def prodL (ns : List Int) : Int := ns.foldl (fun p n => p * n) 1
theorem prodS_snoc (ns : List Int) (n : Int) : prodL (ns ++ [n]) = prodL ns * n := by
  unfold prodL
  rw [List.foldl_append]
  rfl
theorem fold_mul (ns : List Int) : ∀ p : Int, ns.foldl (fun p n => p * n) p = p * ns.foldl (fun p n => p * n) 1 := by
  induction ns with
  | nil => intro p; simp
  | cons n ns ih =>
    intro p
    rw [List.foldl_cons, List.foldl_cons, ih (p * n), ih (1 * n), Int.one_mul, Int.mul_assoc]
theorem prodL_cons (n : Int) (ns : List Int) : prodL (n :: ns) = n * prodL ns := by
  unfold prodL
  rw [List.foldl_cons, fold_mul, Int.one_mul]
theorem prodL_pos : ∀ {ns : List Int}, (∀ n ∈ ns, 1 ≤ n) → 1 ≤ prodL ns
  | [], _ => by decide
  | n :: ns, h => by
    rw [prodL_cons]
    exact Int.mul_pos (by have := h n List.mem_cons_self; omega) (by have := prodL_pos (fun m hm => h m (List.mem_cons_of_mem _ hm)); omega)
theorem prodL_take : ∀ {ns : List Int} (i : Nat), (∀ n ∈ ns, 1 ≤ n) → prodL (ns.take i) ≤ prodL ns
  | [], _, _ => by simp
  | n :: ns, 0, h => by
    rw [List.take_zero]
    exact prodL_pos h
  | n :: ns, i + 1, h => by
    rw [List.take_succ_cons, prodL_cons, prodL_cons]
    exact Int.mul_le_mul_of_nonneg_left (prodL_take i fun m hm => h m (List.mem_cons_of_mem _ hm)) (by have := h n List.mem_cons_self; omega)
theorem foldS_len : ∀ (ns : List Int) (hss : List (List Int)), (∀ n ∈ ns, 1 ≤ n) → ((ns.foldl crossS hss).length : Int) = hss.length * prodL ns
  | [], hss, _ => by simp [prodL]
  | n :: ns, hss, h => by
    have n1 := h n List.mem_cons_self
    rw [List.foldl_cons, foldS_len ns _ fun m hm => h m (List.mem_cons_of_mem _ hm), crossS_len, prodL_cons, Int.natCast_mul, Int.toNat_of_nonneg (by omega), Int.mul_assoc]
theorem allS_len {ns : List Int} (h : ∀ n ∈ ns, 1 ≤ n) : ((allS ns).length : Int) = prodL ns := by
  unfold allS
  rw [foldS_len ns _ h]
  simp
theorem mem_foldS : ∀ (ns : List Int) (hss : List (List Int)) (p : List Int), p ∈ ns.foldl crossS hss ↔ ∃ h ∈ hss, ∃ q, SeatOk ns q ∧ p = h ++ q
  | [], hss, p => by
    constructor
    · intro h
      exact ⟨p, h, [], True.intro, by simp⟩
    · rintro ⟨h, hh, q, sk, rfl⟩
      cases q with
      | nil => rw [List.append_nil]; exact hh
      | cons x q => exact sk.elim
  | n :: ns, hss, p => by
    rw [List.foldl_cons, mem_foldS ns]
    constructor
    · rintro ⟨h, hh, q, sk, rfl⟩
      obtain ⟨g, hg, hh⟩ := List.mem_flatMap.mp hh
      obtain ⟨i, hi, rfl⟩ := List.mem_map.mp hh
      have := List.mem_range.mp hi
      exact ⟨g, hg, (i : Int) :: q, ⟨⟨by omega, by omega⟩, sk⟩, by simp⟩
    · rintro ⟨h, hh, q, sk, rfl⟩
      cases q with
      | nil => exact sk.elim
      | cons x q =>
        obtain ⟨⟨x0, x1⟩, sk⟩ : (0 ≤ x ∧ x < n) ∧ SeatOk ns q := sk
        refine ⟨h ++ [x], List.mem_flatMap.mpr ⟨h, hh, List.mem_map.mpr ⟨x.toNat, List.mem_range.mpr (by omega), by rw [Int.toNat_of_nonneg x0]⟩⟩, q, sk, by simp⟩
theorem mem_allS {ns p : List Int} : p ∈ allS ns ↔ SeatOk ns p := by
  unfold allS
  rw [mem_foldS]
  constructor
  · rintro ⟨h, hh, q, sk, rfl⟩
    rw [List.mem_singleton.mp hh]
    exact sk
  · intro sk
    exact ⟨[], List.mem_singleton.mpr rfl, p, sk, rfl⟩
theorem rows_allS {ns : List Int} : ∀ hs ∈ allS ns, hs.length = ns.length := fun hs h => (mem_allS.mp h).len
/-- the seat as far behind p as o is ahead -/
def mirL : List Int → List Int → List Int → List Int
  | n :: ns, p :: ps, o :: os => ((2 * p - o) % n) :: mirL ns ps os
  | _, _, _ => []
theorem mirL_len : ∀ {ns ps os : List Int}, ps.length = ns.length → os.length = ns.length → (mirL ns ps os).length = ns.length
  | [], _, _, _, _ => by cases ‹List Int› <;> cases ‹List Int› <;> rfl
  | n :: ns, p :: ps, o :: os, h1, h2 => by
    simp only [mirL, List.length_cons] at *
    rw [mirL_len (by omega) (by omega)]
theorem mirL_get : ∀ {ns ps os : List Int} {i : Nat} {n p o : Int}, ns[i]? = some n → ps[i]? = some p → os[i]? = some o → (mirL ns ps os)[i]? = some ((2 * p - o) % n)
  | n :: ns, p :: ps, o :: os, 0, _, _, _, h1, h2, h3 => by
    simp at h1 h2 h3
    subst h1 h2 h3
    rfl
  | n :: ns, p :: ps, o :: os, i + 1, _, _, _, h1, h2, h3 => by
    rw [List.getElem?_cons_succ] at h1 h2 h3
    show (mirL ns ps os)[i]? = _
    exact mirL_get h1 h2 h3
  | [], _, _, _, _, _, _, h1, _, _ => by simp at h1
  | _ :: _, [], _, _, _, _, _, _, h1, _ => by simp at h1
  | _ :: _, _ :: _, [], _, _, _, _, _, _, h1 => by simp at h1
theorem mirL_seat : ∀ {ns ps os : List Int}, (∀ n ∈ ns, 1 ≤ n) → ps.length = ns.length → os.length = ns.length → SeatOk ns (mirL ns ps os)
  | [], _, _, _, _, _ => by cases ‹List Int› <;> cases ‹List Int› <;> exact True.intro
  | n :: ns, p :: ps, o :: os, h, h1, h2 => by
    have n1 := h n List.mem_cons_self
    exact ⟨⟨Int.emod_nonneg _ (by omega), Int.emod_lt_of_pos _ (by omega)⟩, mirL_seat (fun m hm => h m (List.mem_cons_of_mem _ hm)) (by simpa using h1) (by simpa using h2)⟩
/-- the call that leads from p to o -/
def toL : List Int → List Int → List Int → List Int
  | n :: ns, p :: ps, o :: os => ((o - p) % n) :: toL ns ps os
  | _, _, _ => []
theorem toL_len : ∀ {ns ps os : List Int}, ps.length = ns.length → os.length = ns.length → (toL ns ps os).length = ns.length
  | [], _, _, _, _ => by cases ‹List Int› <;> cases ‹List Int› <;> rfl
  | n :: ns, p :: ps, o :: os, h1, h2 => by
    simp only [toL, List.length_cons] at *
    rw [toL_len (by omega) (by omega)]
theorem toL_get : ∀ {ns ps os : List Int} {i : Nat} {n p o : Int}, ns[i]? = some n → ps[i]? = some p → os[i]? = some o → (toL ns ps os)[i]? = some ((o - p) % n)
  | n :: ns, p :: ps, o :: os, 0, _, _, _, h1, h2, h3 => by
    simp at h1 h2 h3
    subst h1 h2 h3
    rfl
  | n :: ns, p :: ps, o :: os, i + 1, _, _, _, h1, h2, h3 => by
    rw [List.getElem?_cons_succ] at h1 h2 h3
    show (toL ns ps os)[i]? = _
    exact toL_get h1 h2 h3
  | [], _, _, _, _, _, _, h1, _, _ => by simp at h1
  | _ :: _, [], _, _, _, _, _, _, h1, _ => by simp at h1
  | _ :: _, _ :: _, [], _, _, _, _, _, _, h1 => by simp at h1
/-- the number of a seat in a list of numbers -/
def dep (fs : List (List Int × Nat)) (p : List Int) : Option Nat := (fs.find? fun q => decide (q.1 = p)).map (·.2)
abbrev keysL (fs : List (List Int × Nat)) : List (List Int) := fs.map (·.1)
theorem dep_cons (f : List Int × Nat) (fs : List (List Int × Nat)) (p : List Int) : dep (f :: fs) p = if f.1 = p then some f.2 else dep fs p := by
  unfold dep
  rw [List.find?_cons]
  by_cases c : f.1 = p
  · rw [decide_eq_true c, if_pos c]
    rfl
  · rw [decide_eq_false c, if_neg c]
theorem dep_isSome {fs : List (List Int × Nat)} {p : List Int} : (dep fs p).isSome = decide (p ∈ keysL fs) := by
  induction fs with
  | nil => simp [dep]
  | cons f fs ih =>
    rw [dep_cons]
    by_cases c : f.1 = p
    · rw [if_pos c]
      simp [c]
    · rw [if_neg c, ih]
      have : ¬ p = f.1 := fun z => c z.symm
      simp [this]
/-- the seats that join next -/
def newL (ns : List Int) (fs : List (List Int × Nat)) (miss newest : List (List Int)) : List (List Int) := miss.filter fun s => newest.any fun o => decide (mirL ns s o ∈ keysL fs)
abbrev atD (d : Nat) (ps : List (List Int)) : List (List Int × Nat) := ps.map fun p => (p, d)
def missL (fs : List (List Int × Nat)) (miss : List (List Int)) : List (List Int) := miss.filter fun s => decide (s ∉ keysL fs)
def roundsL (ns : List Int) : Nat → List (List Int × Nat) → List (List Int) → List (List Int) → Nat → List (List Int × Nat)
  | 0, fs, _, _, _ => fs
  | f + 1, fs, miss, newest, d => if newest = [] then fs else
    roundsL ns f (fs ++ atD (d + 1) (newL ns fs miss newest)) (missL (fs ++ atD (d + 1) (newL ns fs miss newest)) miss) (newL ns fs miss newest) (d + 1)
def countsL (ns : List Int) (tss : List (List Int)) : List (List Int × Nat) := roundsL ns ((allS ns).length + 2) (atD 0 tss) (missL (atD 0 tss) (allS ns)) tss 0
theorem crossS_nodup {hss : List (List Int)} (n : Int) (h : hss.Nodup) : (crossS hss n).Nodup := by
  unfold crossS
  unfold List.Nodup at h ⊢
  rw [List.pairwise_flatMap]
  constructor
  · intro hs _
    rw [List.pairwise_map]
    refine List.Pairwise.imp (fun {a b} z e => z ?_) List.nodup_range
    have := (List.append_inj' e rfl).2
    exact Int.ofNat.inj (List.cons.inj this).1
  · refine h.imp fun {a b} z x hx y hy e => z ?_
    obtain ⟨i, _, rfl⟩ := List.mem_map.mp hx
    obtain ⟨j, _, rfl⟩ := List.mem_map.mp hy
    exact (List.append_inj' e rfl).1
theorem allS_nodup (ns : List Int) : (allS ns).Nodup := by
  unfold allS
  have : ∀ (ns : List Int) (hss : List (List Int)), hss.Nodup → (ns.foldl crossS hss).Nodup := fun ns => by
    induction ns with
    | nil => exact fun _ h => h
    | cons n ns ih => exact fun hss h => ih _ (crossS_nodup n h)
  exact this ns _ (by simp)
theorem filter_two {α : Type} {c d : α → Bool} : ∀ {l : List α}, (∀ x ∈ l, c x = true → d x = false) → (l.filter c).length + (l.filter d).length ≤ l.length
  | [], _ => by simp
  | x :: l, h => by
    have ih := filter_two (l := l) fun y hy => h y (List.mem_cons_of_mem _ hy)
    rw [List.filter_cons, List.filter_cons]
    cases hc : c x
    · cases d x <;> simp <;> omega
    · rw [h x List.mem_cons_self hc]
      simp
      omega
theorem newL_sub {ns : List Int} {fs : List (List Int × Nat)} {miss newest : List (List Int)} {p : List Int} (h : p ∈ newL ns fs miss newest) : p ∈ miss := (List.mem_filter.mp h).1
theorem keys_app (fs gs : List (List Int × Nat)) : keysL (fs ++ gs) = keysL fs ++ keysL gs := List.map_append
theorem mem_missL {fs : List (List Int × Nat)} {miss : List (List Int)} {p : List Int} : p ∈ missL fs miss ↔ p ∈ miss ∧ p ∉ keysL fs := by
  unfold missL
  rw [List.mem_filter, decide_eq_true_iff]

/-- a dict of numbers by seats -/
abbrev entK (p : List Int) : List L2.Key := p.map Sum.inl
abbrev entV (q : List Int × Nat) : List L2.Key × V := (entK q.1, V.int (q.2 : Int))
theorem entK_kV (p : List Int) : (entK p).map kV = p.map V.int := by rw [List.map_map]; rfl
theorem entK_inj {p q : List Int} (h : entK p = entK q) : p = q := by
  induction p generalizing q with
  | nil =>
    cases q with
    | nil => rfl
    | cons => cases h
  | cons a p ih =>
    cases q with
    | nil => cases h
    | cons b q =>
      obtain ⟨h1, h2⟩ := List.cons.inj h
      rw [Sum.inl.inj h1, ih h2]
def CntAt (H : Hp) (d : Addr) (fs : List (List Int × Nat)) : Prop := H d = some (.dT (fs.map entV))
theorem CntAt.mono {H H2 : Hp} {d : Addr} {fs : List (List Int × Nat)} (e : Ex H H2) (h : CntAt H d fs) : CntAt H2 d fs := e _ _ h
theorem val_ent (p : List Int) : ∀ fs : List (List Int × Nat), valV (fs.map entV) (entK p) = (dep fs p).map fun d : Nat => V.int (d : Int)
  | [] => rfl
  | f :: fs => by
    rw [List.map_cons]
    by_cases c : f.1 = p
    · rw [valV_pos (show entK f.1 = entK p by rw [c])]
      unfold dep
      rw [List.find?_cons, decide_eq_true c]
      rfl
    · rw [valV_neg (fun z => c (entK_inj z)), val_ent p fs]
      unfold dep
      rw [List.find?_cons, decide_eq_false c]
theorem cnt_get {H : Hp} {d r : Addr} {fs : List (List Int × Nat)} {p : List Int} (h : CntAt H d fs) (hr : H r = some (.tup (p.map V.int))) : DGet H d (.ref r) ((dep fs p).map fun d : Nat => V.int (d : Int)) := by
  rw [← val_ent]
  exact DGet.t h (by rw [entK_kV]; exact hr)
theorem tup_dict {q D : Addr} {H : Hp} {kvs : List (List L2.Key × V)} {ys : List V} {o : HO} (hD : H D = some (.dT kvs)) (h : H q = some (.tup ys)) : upd H D o q = some (.tup ys) := by
  rw [upd_ne (ne_of h hD (by intro z; cases z))]
  exact h
section
variable {P : Program} {w : World} {K : PySem.W.Frag} {mg : Str → Option Value} {base : Heap}
end

theorem XB.src {s : Addr} {H H2 H3 : Hp} (xb : XB s H H2) (e : Ex H2 H3) : XB s H H3 := xb.trans (XB.of e)
/-- an appended list D, new behind H, beside the source s -/
theorem XB.app {s D : Addr} {H H2 : Hp} {o : HO} (xb : XB s H H2) (hD : H D = none) : XB s H (L2.upd H2 D o) := fun c u n z => by
  rw [upd_ne (ne_of_none z hD)]
  exact xb c u n z
theorem Src.app {s D : Addr} {H : Hp} {o : HO} (h : Src H s) (n : D ≠ s) : Src (upd H D o) s := by
  obtain ⟨a, b, c, z⟩ := h
  exact ⟨a, b, c, by rw [upd_ne n.symm]; exact z⟩
theorem atI_nat {α : Type} {xs : List α} {r : Int} (r0 : 0 ≤ r) (r1 : r < xs.length) : ∃ v, atI xs r = some v ∧ v ∈ xs := by
  have h : r.toNat < xs.length := by omega
  refine ⟨xs[r.toNat], ?_, List.getElem_mem h⟩
  unfold atI ixN
  rw [if_pos r0, if_pos r1]
  show xs[r.toNat]? = _
  rw [List.getElem?_eq_getElem h]
theorem prodL_snoc (ns : List Int) (n : Int) : ns.foldl (fun p n => p * n) 1 * n = (ns ++ [n]).foldl (fun p n => p * n) 1 := by
  rw [List.foldl_append]
  rfl
theorem SeatOk.snoc : ∀ {ns ps : List Int} {n p : Int}, SeatOk ns ps → 0 ≤ p → p < n → SeatOk (ns ++ [n]) (ps ++ [p])
  | [], [], _, _, _, h0, h1 => ⟨⟨h0, h1⟩, True.intro⟩
  | _ :: _, _ :: _, _, _, h, h0, h1 => ⟨h.1, SeatOk.snoc h.2 h0 h1⟩
theorem abs30 {n : Int} (h1 : 1 ≤ n) (h2 : n ≤ 10 ^ 30) : n.natAbs < 2 ^ 100 := by
  have : (10 : Int) ^ 30 < 2 ^ 100 := by decide +kernel
  omega
theorem tup_xb {s q : Addr} {H H2 : Hp} {xs : List V} (src : Src H s) (h : H q = some (.tup xs)) (xb : XB s H H2) : H2 q = some (.tup xs) := by
  obtain ⟨a, b, c, z⟩ := src
  exact xb _ _ (ne_of h z (by intro q; cases q)) h
theorem TabAt.xb {C s a : Addr} {H H2 : Hp} {ns : List Int} (src : Src H s) (xb : XB s H H2) (h : TabAt C H a ns) : TabAt C H2 a ns := by
  obtain ⟨dx, t, h1, h2⟩ := h
  obtain ⟨x, y, c, z⟩ := src
  exact ⟨dx, t, xb _ _ (ne_of h1 z (by intro q; cases q)) h1, xb _ _ (ne_of h2 z (by intro q; cases q)) h2⟩
theorem RowsR.xb {s : Addr} {H H2 : Hp} {xs : List V} {tss : List (List Int)} (h : RowsR H xs tss) (src : Src H s) (xb : XB s H H2) : RowsR H2 xs tss := h.monoT fun _ _ z => tup_xb src z xb
theorem RowsAt.xb {s f : Addr} {H H2 : Hp} {tss : List (List Int)} (h : RowsAt H f tss) (n : f ≠ s) (src : Src H s) (xb : XB s H H2) : RowsAt H2 f tss := by
  obtain ⟨xs, h1, h2⟩ := h
  exact ⟨xs, xb _ _ n h1, h2.xb src xb⟩

theorem sif_cut {c : TT} {t u r : TS} {D : Ends} {σ : L2.St} {H : Hp} (R : L2.St → Hp → Prop) (h : ∀ N : L2.St → Hp → Prop, (∀ σ2 H2, R σ2 H2 → N σ2 H2) → tIfS c t u { D with nx := N } σ H) (hR : ∀ σ2 H2, R σ2 H2 → r D σ2 H2) : tSeq (tIfS c t u) r D σ H :=
  ifs_cutG (D := { D with nx := r D }) R hR h
theorem mul_le_prod {ns : List Int} (h : ∀ n ∈ ns, 1 ≤ n) {i : Nat} {n : Int} (hn : ns[i]? = some n) : n ≤ prodL ns := by
  have o1 : ∀ m ∈ ns.take i, 1 ≤ m := fun m hm => h m (List.mem_of_mem_take hm)
  have a1 : prodL (ns.take (i + 1)) ≤ prodL ns := prodL_take (i + 1) h
  have n1 := h n (List.mem_of_getElem? hn)
  rw [take_more hn, prodS_snoc] at a1
  have a2 := prodL_pos o1
  have a3 : 1 * n ≤ prodL (ns.take i) * n := Int.mul_le_mul_of_nonneg_right a2 (by omega)
  omega
section
variable {P : Program} {w : World} {K : PySem.W.Frag} {mg : Str → Option Value} {base : Heap}
def sp_law_rings : Sp := fun vs H Q _ => ∃ (s : Addr) (m : Int), vs = [.ref s, .int m] ∧ Src H s ∧ 1 ≤ m ∧ m ≤ 1000 ∧ ∀ (l : Addr) (ns : List Int) H2, H l = none → H2 l = some (.lst (ns.map V.int)) → SzOk ns → prodL ns ≤ m → XB s H H2 → Src H2 s → Q (.ref l) H2
theorem ok_law_rings (T : TX K mg) : FnOk P w K mg base CX0 3 T.f_law_rings T.fd_law_rings ["_law_source_here", "_law_high"] sp_law_rings := by
  refine T.F_law_rings.ok sc_law_rings (fun vs H Q E h => ?_) (fun cdv A outer s H vs Q E hr h => ?_)
  · obtain ⟨s, m, rfl, _⟩ := h
    rfl
  · obtain ⟨s, m, rfl, hs, m0, m1, k⟩ := h
    refine ⟨_, (pss_cons (ps_set (i := 2) sc_law_rings.nd rfl (Or.inl rfl) (pe_lst pa_nil)) (pss_cons (ps_set (i := 3) sc_law_rings.nd rfl (Or.inl rfl) (pv 1)) (pss_cons (ps_for PassesOwn.never rfl (pi_range1 rfl T.z_range (pa_cons (pe_op op_add pe_int (pe_ix ix_list (pe_lst (pa_cons pe_int (pa_cons pe_int (pa_cons pe_int (pa_cons pe_int (pa_cons pe_int pa_nil)))))) (pe_call (ok_law_draw T) hr rfl T.m_law_draw T.F_law_draw.kp T.b_law_draw .nil pass0 (pa_cons (pv 0) (pa_cons pe_int pa_nil))) (fun _ _ => rfl))) pa_nil)) (pg_name (i := 4) sc_law_rings.nd rfl (Or.inl rfl)) (pss_cons (ps_set (i := 5) sc_law_rings.nd rfl (Or.inl rfl) (pe_op op_add pe_int (pe_call (ok_law_draw T) hr rfl T.m_law_draw T.F_law_draw.kp T.b_law_draw .nil pass0 (pa_cons (pv 0) (pa_cons (pv 3) pa_nil))))) (pss_cons (ps_if (PW.pt (pw_and (pt_cmpR op_gt (pv 4) pe_int (nomark _)) (pw_and1 (pt_cmpR op_gt (pv 5) pe_int (nomark _))))) (pss_one (ps_set (i := 5) sc_law_rings.nd rfl (Or.inl rfl) (pe_op op_add pe_int (pe_op op_mod (pv 5) pe_int)))) pss_nil) (pss_cons (ps_expr (pe_bm PySem.F.plainAttrs_list PySem.F.slot_list_append PySem.F.type_list_append mt_append (pv 2) (pa_cons (pv 5) pa_nil))) (pss_one (ps_set (i := 3) sc_law_rings.nd rfl (Or.inl rfl) (pe_callB (call_max2 rfl) (by rfl) T.z_max (by decide +kernel) (pa_cons pe_int (pa_cons (pe_op op_fdivW (pv 3) (pv 5)) pa_nil))))))))) (pss_one (ps_ret (pv 2)))))), ?_⟩
    refine ⟨slen rfl, ?_⟩
    (intro l nl; generalize hGl : upd _ l _ = H1; have eH1 := exG hGl nl; have hl := atG hGl; clear hGl)
    dsimp only [gName]
    have nls : l ≠ s := hs.ne nl
    refine ⟨_, rfl, ?_⟩
    dsimp only [gName]
    refine ⟨slen rfl, ?_⟩
    (intro al nal; generalize hGal : upd _ al _ = H2; have eH2 := exG hGal nal; have hal := atG hGal; clear hGal)
    have E2 := ext eH1 eH2
    have nals : al ≠ s := (hs.mono eH1).ne nal
    refine ⟨_, rfl, s, 5, rfl, hs.mono E2, by decide, by decide +kernel, fun r H3 r0 r1 xb3 src3 => ?_⟩
    obtain ⟨v, hv, hm⟩ := atI_nat (xs := [V.int 0, V.int 0, V.int 1, V.int 2, V.int 3]) r0 r1
    obtain ⟨z, rfl, z0, z3⟩ : ∃ z : Int, v = .int z ∧ 0 ≤ z ∧ z ≤ 3 := by
      simp only [List.mem_cons, List.not_mem_nil, or_false] at hm
      rcases hm with rfl | rfl | rfl | rfl | rfl
      all_goals exact ⟨_, rfl, by omega, by omega⟩
    refine ⟨al, _, _, _, rfl, rfl, SqL.of (xb3 _ _ nals hal), hv, _, _, rfl, rfl, _, rfl, by omega, by omega, ?_⟩
    have hl3 := xb3 _ _ nls (eH2 _ _ hl)
    have xbH : XB s H H3 := (XB.of E2).trans xb3
    refine for_it walk_range (fun i σ Hx => ∃ (y4 y5 : Option V) (ns : List Int) (rm : Int), σ = [some (.ref s), some (.int m), some (.ref l), some (.int rm), y4, y5] ∧ Hx l = some (.lst (ns.map V.int)) ∧ ns.length = i ∧ (∀ n ∈ ns, 1 ≤ n) ∧ 1 ≤ rm ∧ prodL ns * rm ≤ m ∧ XB s H Hx ∧ Src Hx s) ⟨_, _, [], m, rfl, hl3, rfl, by simp, m0, by show 1 * m ≤ m; omega, xbH, src3⟩ (fun _ _ _ _ _ => True.intro) ?_ ?_
    · rintro i x σ _ Hx hi ⟨y4, y5, ns, rm, rfl, hlx, ln, hn, rm1, pm, xbx, srcx⟩ ⟨rfl, hx⟩
      obtain rfl : x = .int (i : Int) := hx.trans (congrArg V.int (Int.zero_add _))
      have rmm : rm ≤ m := by
        have p1 := prodL_pos hn
        have := Int.mul_le_mul_of_nonneg_right p1 (show 0 ≤ rm by omega)
        omega
      dsimp only [gName]
      refine ⟨_, rfl, _, rfl, s, rm, rfl, srcx, by omega, ?_, fun r2 H4 r20 r21 xb4 src4 => ⟨_, _, rfl, rfl, ?_⟩⟩
      · exact Nat.lt_of_le_of_lt (show rm.natAbs ≤ 1000 by omega) (by decide +kernel)
      dsimp only [gName]
      show tSeq (tIfS _ _ _) _ _ [some (.ref s), some (.int m), some (.ref l), some (.int rm), some (.int (i : Int)), some (.int (1 + r2))] _
      refine sif_cut (fun σ2 Hy => ∃ sz : Int, σ2 = [some (.ref s), some (.int m), some (.ref l), some (.int rm), some (.int (i : Int)), some (.int sz)] ∧ Hy = H4 ∧ 1 ≤ sz ∧ sz ≤ rm) (fun N hN => ?_) ?_
      · refine ⟨_, rfl, _, _, rfl, rfl, _, rfl, ?_⟩
        by_cases c1 : (0 : Int) < (i : Int)
        · refine itt (decide_eq_true c1) ⟨_, rfl, _, _, rfl, rfl, _, rfl, ?_⟩
          by_cases c2 : 12 < 1 + r2
          · refine itt (decide_eq_true c2) ?_
            have a1 := Int.emod_nonneg (1 + r2) (show (6 : Int) ≠ 0 by decide)
            have a2 := Int.emod_lt_of_pos (1 + r2) (show (0 : Int) < 6 by decide)
            exact ⟨_, rfl, _, _, rfl, rfl, (by show (0 : Int) < 6; decide), _, _, rfl, rfl, hN _ _ ⟨1 + (1 + r2) % 6, rfl, rfl, by omega, by omega⟩⟩
          · exact itf (decide_eq_false c2) (hN _ _ ⟨1 + r2, rfl, rfl, by omega, by omega⟩)
        · exact itf (decide_eq_false c1) (itf rfl (hN _ _ ⟨1 + r2, rfl, rfl, by omega, by omega⟩))
      rintro σ2 _ ⟨sz, rfl, rfl, sz1, sz2⟩
      have hl4 := xb4 _ _ nls hlx
      refine ⟨_, rfl, .inl ⟨rfl, _, SqL.of hl4⟩, _, rfl, l, _, _, rfl, rfl, hl4, ?_, ?_⟩
      · rw [List.length_map, ln]
        have h9 : i < (1 + z).toNat := hi
        exact Nat.lt_of_le_of_lt (show i ≤ 4 by omega) (by decide)
      have q1 : 1 ≤ rm / sz := by
        have := Int.ediv_le_ediv (by omega : 0 < sz) sz2
        rw [Int.ediv_self (by omega)] at this
        exact this
      have q2 : sz * (rm / sz) ≤ rm := Int.mul_ediv_self_le (by omega)
      refine ⟨_, rfl, _, rfl, _, _, rfl, rfl, ?_, _, _, rfl, ?_⟩
      · have h1 : sz.natAbs ≤ 1000 := by omega
        have h2 : sz.natAbs < 2 ^ 20 := Nat.lt_of_le_of_lt h1 (by decide)
        exact wide_div (by omega) h2 (by decide) (by decide)
      have em : (if rm / sz > 1 then rm / sz else 1) = rm / sz := by
        split <;> omega
      rw [em]
      refine ⟨_, _, ns ++ [sz], rm / sz, rfl, by rw [upd_same, List.map_append]; rfl, by rw [List.length_append, ln]; rfl, fun n hn2 => ?_, q1, ?_, (xbx.trans xb4).app nl, src4.app nls⟩
      · rcases List.mem_append.mp hn2 with h | h
        · exact hn n h
        · rw [List.mem_singleton.mp h]
          exact sz1
      · rw [prodS_snoc, Int.mul_assoc]
        have p1 := prodL_pos hn
        exact Int.le_trans (Int.mul_le_mul_of_nonneg_left q2 (by omega)) pm
    · rintro σ Hx ⟨y4, y5, ns, rm, rfl, hlx, ln, hn, rm1, pm, xbx, srcx⟩
      have ln2 : ns.length = (1 + z).toNat := ln
      have p1 := prodL_pos hn
      have pl : prodL ns ≤ m := by
        have := Int.mul_le_mul_of_nonneg_left rm1 (show 0 ≤ prodL ns by omega)
        omega
      exact ⟨_, rfl, k l ns _ nl hlx ⟨by intro z; rw [z] at ln2; simp at ln2; omega, by omega, hn⟩ pl xbx srcx⟩
end

section
variable {P : Program} {w : World} {K : PySem.W.Frag} {mg : Str → Option Value} {base : Heap}
def sp_law_both : Sp := fun vs H Q _ => ∃ (l s c : Addr) (ns ps cs : List Int), vs = [.ref l, .ref s, .ref c] ∧ H l = some (.lst (ns.map V.int)) ∧ SzOk ns ∧ H s = some (.tup (ps.map V.int)) ∧ H c = some (.tup (cs.map V.int)) ∧ ps.length = ns.length ∧ cs.length = ns.length ∧
  ∀ (q f b : Addr) H2, Ex H H2 → H2 q = some (.tup [.ref f, .ref b]) → H2 f = some (.tup ((shiftL ns ps cs 1).map V.int)) → H2 b = some (.tup ((shiftL ns ps cs (-1)).map V.int)) → Q (.ref q) H2
theorem ok_law_both (T : TX K mg) : FnOk P w K mg base CX0 1 T.f_law_both T.fd_law_both ["_law_rings_here", "_law_spot", "_law_call"] sp_law_both := by
  refine T.F_law_both.ok sc_law_both (fun vs H Q E h => ?_) (fun cdv A outer s H vs Q E hr h => ?_)
  · obtain ⟨l, s, c, ns, ps, cs, rfl, _⟩ := h
    rfl
  · obtain ⟨l, s, c, ns, ps, cs, rfl, hl, ok, hs, hc, lp, lc, k⟩ := h
    refine ⟨_, (pss_cons (ps_setLc (own := [("_law_place", 5), ("_law_one", 6), ("_law_size", 7)]) (g := (gTup K 3 (gCons (gName 5) (gCons (gName 6) (gCons (gName 7) gNil))))) (i := 3) rfl sc_law_both.nd rfl rfl (sw_true rfl rfl rfl (by decide +kernel)) (CZ.pi_z3 (fl := [true, true, false]) rfl (by rfl) T.z_zip (pa_cons (pv 1) (pa_cons (pv 2) (pa_cons (pv 0) pa_nil)))) (blkOk_by (N := N_law_both) (sc := defScope s_law_both) (by decide +kernel)) (fun _ _ _ _ _ => (pg_tup rfl (pgs_cons (pg_name (i := 5) sc_law_both.nd rfl (Or.inl rfl)) (pgs_cons (pg_name (i := 6) sc_law_both.nd rfl (Or.inl rfl)) (pgs_cons (pg_name (i := 7) sc_law_both.nd rfl (Or.inl rfl)) pgs_nil))))) (fun _ _ _ _ _ => pts_nil) (fun _ _ _ _ _ => (pe_op op_mod (pe_op op_add (pv 5) (pv 6)) (pv 7)))) (pss_cons (ps_setLc (own := [("_law_place", 5), ("_law_one", 6), ("_law_size", 7)]) (g := (gTup K 3 (gCons (gName 5) (gCons (gName 6) (gCons (gName 7) gNil))))) (i := 4) rfl sc_law_both.nd rfl rfl (sw_true rfl rfl rfl (by decide +kernel)) (CZ.pi_z3 (fl := [true, true, false]) rfl (by rfl) T.z_zip (pa_cons (pv 1) (pa_cons (pv 2) (pa_cons (pv 0) pa_nil)))) (blkOk_by (N := N_law_both) (sc := defScope s_law_both) (by decide +kernel)) (fun _ _ _ _ _ => (pg_tup rfl (pgs_cons (pg_name (i := 5) sc_law_both.nd rfl (Or.inl rfl)) (pgs_cons (pg_name (i := 6) sc_law_both.nd rfl (Or.inl rfl)) (pgs_cons (pg_name (i := 7) sc_law_both.nd rfl (Or.inl rfl)) pgs_nil))))) (fun _ _ _ _ _ => pts_nil) (fun _ _ _ _ _ => (pe_op op_mod (pe_op op_sub (pv 5) (pv 6)) (pv 7)))) (pss_one (ps_ret (pe_tup (pa_cons (pe_callTy call_tuple_of (by rfl) T.z_tuple (by decide +kernel) (pa_cons (pv 3) pa_nil)) (pa_cons (pe_callTy call_tuple_of (by rfl) T.z_tuple (by decide +kernel) (pa_cons (pv 4) pa_nil)) pa_nil))))))), ?_⟩
    have l4 := ok.le
    have lens := lens3 (n := ns.length) (xs := ps.map V.int) (ys := cs.map V.int) (us := ns.map V.int) (by rw [List.length_map, lp]) (by rw [List.length_map, lc]) (by rw [List.length_map])
    refine ⟨_, rfl, _, rfl, _, rfl, [s, c, l], rfl, rfl, all3 (sqT hs) (sqT hc) (sqL hl), fun D hD => ?_⟩
    refine lc_vals (CZ.walk_rows (xss := [ps.map V.int, cs.map V.int, ns.map V.int]) (n := ns.length) lens) ((shiftL ns ps cs 1).map V.int) (by rw [List.length_map, shift_len lp lc]) (by omega) hD (fun H3 e => .cons (sqT (e _ _ hs)) (.cons (sqT (e _ _ hc)) (.cons (sqL (e _ _ hl)) .nil))) ?_ (gmono_tup (gmono_cons gmono_name (gmono_cons gmono_name (gmono_cons gmono_name gmono_nil)))) ?_
    · intro i y H3 H4 R hi e yy kk
      obtain ⟨Ta, p, t, n, rfl, hT, rfl, hp, ht, hn⟩ := yints3 yy
      have n1 := ok.one n (List.mem_of_getElem? hn)
      refine ⟨Ta, _, rfl, SqT.of upd_same, rfl, _, _, rfl, _, _, rfl, _, _, rfl, rfl, rfl, ?_⟩
      refine ⟨_, rfl, _, rfl, _, _, rfl, rfl, _, rfl, _, _, rfl, rfl, (by show (0 : Int) < n; omega), ?_⟩
      refine kk _ _ (exn hT) ?_
      rw [List.getElem?_map, shift_get hn hp ht, Int.one_mul]
      rfl
    intro H1 e1 hD1
    dsimp only [gName]
    refine ⟨_, rfl, _, rfl, _, rfl, [s, c, l], rfl, rfl, all3 (sqT (e1 _ _ hs)) (sqT (e1 _ _ hc)) (sqL (e1 _ _ hl)), fun D2 hD2 => ?_⟩
    refine lc_vals (CZ.walk_rows (xss := [ps.map V.int, cs.map V.int, ns.map V.int]) (n := ns.length) lens) ((shiftL ns ps cs (-1)).map V.int) (by rw [List.length_map, shift_len lp lc]) (by omega) hD2 (fun H3 e => .cons (sqT (e _ _ (e1 _ _ hs))) (.cons (sqT (e _ _ (e1 _ _ hc))) (.cons (sqL (e _ _ (e1 _ _ hl))) .nil))) ?_ (gmono_tup (gmono_cons gmono_name (gmono_cons gmono_name (gmono_cons gmono_name gmono_nil)))) ?_
    · intro i y H3 H4 R hi e yy kk
      obtain ⟨Ta, p, t, n, rfl, hT, rfl, hp, ht, hn⟩ := yints3 yy
      have n1 := ok.one n (List.mem_of_getElem? hn)
      refine ⟨Ta, _, rfl, SqT.of upd_same, rfl, _, _, rfl, _, _, rfl, _, _, rfl, rfl, rfl, ?_⟩
      refine ⟨_, rfl, _, rfl, _, _, rfl, rfl, _, rfl, _, _, rfl, rfl, (by show (0 : Int) < n; omega), ?_⟩
      refine kk _ _ (exn hT) ?_
      rw [List.getElem?_map, shift_get hn hp ht, Int.neg_mul, Int.one_mul, ← Int.sub_eq_add_neg]
      rfl
    intro H2 e2 hD2'
    dsimp only [gName]
    refine ⟨_, rfl, D, _, rfl, .inl ⟨SqL.of (e2 _ _ hD1), fun u hu => ?_⟩⟩
    generalize hG : upd H2 u _ = H3
    have e3 := exG hG hu
    have hu3 := atG hG
    clear hG
    refine ⟨_, rfl, D2, _, rfl, .inl ⟨SqL.of (e3 _ _ hD2'), fun v hv => ?_⟩⟩
    generalize hG : upd H3 v _ = H4
    have e4 := exG hG hv
    have hv4 := atG hG
    clear hG
    refine ⟨slen rfl, ?_⟩
    (intro q nq; generalize hGq : upd _ q _ = H5; have eH5 := exG hGq nq; have hq := atG hGq; clear hGq)
    exact k q u v _ (ext (ext e1 e2) (ext (ext e3 e4) eH5)) hq (eH5 _ _ (e4 _ _ hu3)) (eH5 _ _ hv4)
end

/-- halves of a sum of two places -/
def midS (t n : Int) : List Int := ([t, t + n].filter fun x => decide (x % 2 = 0) && decide (x / 2 < n)).map (· / 2)
def crossX (hss : List (List Int)) (xs : List Int) : List (List Int) := hss.flatMap fun hs => xs.map fun x => hs ++ [x]
def MidU (ns fs gs : List Int) (i : Nat) (m : List Int) : Prop := m.length = i ∧ ∀ (j : Nat) (n a b x : Int), ns[j]? = some n → fs[j]? = some a → gs[j]? = some b → m[j]? = some x → 0 ≤ x ∧ x < n ∧ (2 * x - (a + b)) % n = 0
theorem crossX_snoc (hss : List (List Int)) (hs : List Int) (xs : List Int) : crossX (hss ++ [hs]) xs = crossX hss xs ++ xs.map fun x => hs ++ [x] := by
  unfold crossX
  rw [List.flatMap_append]
  simp
theorem crossX_len (hss : List (List Int)) (xs : List Int) : (crossX hss xs).length = hss.length * xs.length := by
  unfold crossX
  induction hss with
  | nil => simp
  | cons h t ih => rw [List.flatMap_cons, List.length_append, ih, List.length_map, List.length_cons, Nat.succ_mul, Nat.add_comm]
theorem mid_step {ns fs gs : List Int} {i : Nat} {n a b : Int} {hss : List (List Int)} (hn : ns[i]? = some n) (ha : fs[i]? = some a) (hb : gs[i]? = some b) (n1 : 1 ≤ n) (h : ∀ m ∈ hss, MidU ns fs gs i m) : ∀ m ∈ crossX hss (midS ((a + b) % n) n), MidU ns fs gs (i + 1) m := fun m hm => by
  unfold crossX at hm
  obtain ⟨hs, h1, h2⟩ := List.mem_flatMap.mp hm
  obtain ⟨x, hx, rfl⟩ := List.mem_map.mp h2
  obtain ⟨l, p⟩ := h hs h1
  refine ⟨by rw [List.length_append, l]; rfl, fun j n2 a2 b2 x2 e1 e2 e3 e4 => ?_⟩
  by_cases c : j < i
  · rw [List.getElem?_append_left (by omega)] at e4
    exact p j n2 a2 b2 x2 e1 e2 e3 e4
  · have jl := (List.getElem?_eq_some_iff.mp e4).1
    rw [List.length_append, List.length_singleton] at jl
    obtain rfl : j = i := by omega
    rw [List.getElem?_append_right (by omega), l, Nat.sub_self] at e4
    obtain rfl := Option.some.inj e4
    obtain rfl := Option.some.inj (hn.symm.trans e1)
    obtain rfl := Option.some.inj (ha.symm.trans e2)
    obtain rfl := Option.some.inj (hb.symm.trans e3)
    unfold midS at hx
    obtain ⟨y, hy, rfl⟩ := List.mem_map.mp hx
    obtain ⟨hy1, hy2⟩ := List.mem_filter.mp hy
    rw [Bool.and_eq_true, decide_eq_true_iff, decide_eq_true_iff] at hy2
    have r0 := Int.emod_nonneg (a + b) (show n ≠ 0 by omega)
    have r1 := Int.emod_lt_of_pos (a + b) (show 0 < n by omega)
    have e := Int.mul_ediv_add_emod (a + b) n
    have key : (2 * (y / 2) - (a + b)) = y - (a + b) := by omega
    simp only [List.mem_cons, List.not_mem_nil, or_false] at hy1
    refine ⟨by omega, hy2.2, ?_⟩
    rw [key]
    refine Int.emod_eq_zero_of_dvd ?_
    rcases hy1 with rfl | rfl
    · exact ⟨-((a + b) / n), by rw [Int.mul_neg]; omega⟩
    · exact ⟨-((a + b) / n) + 1, by rw [Int.mul_add, Int.mul_neg, Int.mul_one]; omega⟩
section
variable {P : Program} {w : World} {K : PySem.W.Frag} {mg : Str → Option Value} {base : Heap}
def sp_law_middles : Sp := fun vs H Q _ => ∃ (l fa ga : Addr) (ns fs gs : List Int), vs = [.ref l, .ref fa, .ref ga] ∧ H l = some (.lst (ns.map V.int)) ∧ SzOk ns ∧ H fa = some (.tup (fs.map V.int)) ∧ SeatOk ns fs ∧ H ga = some (.tup (gs.map V.int)) ∧ SeatOk ns gs ∧
  ∀ q ms H2, Ex H H2 → H q = none → RowsAt H2 q ms → ms.length ≤ 16 → (∀ m ∈ ms, MidU ns fs gs ns.length m) → Q (.ref q) H2
theorem ok_law_middles (T : TX K mg) : FnOk P w K mg base CX0 1 T.f_law_middles T.fd_law_middles ["_law_rings_here", "_law_first", "_law_second"] sp_law_middles := by
  refine T.F_law_middles.ok sc_law_middles (fun vs H Q E h => ?_) (fun cdv A outer s H vs Q E hr h => ?_)
  · obtain ⟨l, fa, ga, ns, fs, gs, rfl, _⟩ := h
    rfl
  · obtain ⟨l, fa, ga, ns, fs, gs, rfl, hl, ok, hfa, skf, hga, skg, k⟩ := h
    have l4 := ok.le
    refine ⟨_, (pss_cons (ps_set (i := 3) sc_law_middles.nd rfl (Or.inl rfl) (pe_lst (pa_cons (pe_tup pa_nil) pa_nil))) (pss_cons (ps_for PassesOwn.never rfl (CZ.pi_z3 (fl := [true, true, false]) rfl (by rfl) T.z_zip (pa_cons (pv 1) (pa_cons (pv 2) (pa_cons (pv 0) pa_nil)))) (pg_tup rfl (pgs_cons (pg_name (i := 4) sc_law_middles.nd rfl (Or.inl rfl)) (pgs_cons (pg_name (i := 5) sc_law_middles.nd rfl (Or.inl rfl)) (pgs_cons (pg_name (i := 6) sc_law_middles.nd rfl (Or.inl rfl)) pgs_nil)))) (pss_cons (ps_set (i := 7) sc_law_middles.nd rfl (Or.inl rfl) (pe_op op_mod (pe_op op_add (pv 4) (pv 5)) (pv 6))) (pss_cons (ps_set (i := 8) sc_law_middles.nd rfl (Or.inl rfl) (pe_lst pa_nil)) (pss_cons (ps_for PassesOwn.never rfl (pi_tup (pe_tup (pa_cons (pv 7) (pa_cons (pe_op op_add (pv 7) (pv 6)) pa_nil)))) (pg_name (i := 9) sc_law_middles.nd rfl (Or.inl rfl)) (pss_one (ps_if (PW.pt (pw_and (pt_cmpR op_eq (pe_op op_mod (pv 9) pe_int) pe_int (nomark _)) (pw_and1 (pt_cmpR op_lt (pe_op op_fdivW (pv 9) pe_int) (pv 6) (nomark _))))) (pss_one (ps_expr (pe_bm PySem.F.plainAttrs_list PySem.F.slot_list_append PySem.F.type_list_append mt_append (pv 8) (pa_cons (pe_op op_fdivW (pv 9) pe_int) pa_nil)))) pss_nil))) (pss_cons (ps_set (i := 10) sc_law_middles.nd rfl (Or.inl rfl) (pe_lst pa_nil)) (pss_cons (ps_for PassesOwn.never rfl (pi_list (pv 3)) (pg_name (i := 11) sc_law_middles.nd rfl (Or.inr rfl)) (pss_one (ps_expr (pe_bm PySem.F.plainAttrs_list PySem.F.slot_list_extend PySem.F.type_list_extend mt_extend (pv 10) (pa_cons (pe_lc (own := [("_law_place", 12)]) (g := (gName 12)) rfl sc_law_middles.nd (pi_list (pv 8)) (blkOk_by (N := N_law_middles) (sc := defScope s_law_middles) (by decide +kernel)) (fun _ _ _ _ _ => (pg_name (i := 12) sc_law_middles.nd rfl (Or.inl rfl))) (fun _ _ _ _ _ => pts_nil) (fun _ _ _ _ _ => (pe_op (r := rCatA K) op_catA (pv 11) (pe_tup (pa_cons (pv 12) pa_nil))))) pa_nil))))) (pss_one (ps_set (i := 3) sc_law_middles.nd rfl (Or.inl rfl) (pv 10))))))))) (pss_one (ps_ret (pv 3))))), ?_⟩
    refine ⟨by show 0 ≤ sizeLine; decide, fun u hu => ⟨by show 1 ≤ sizeLine; decide, fun f hf => ?_⟩⟩
    have e2 : Ex H (upd (upd H u (.tup [])) f (.lst [.ref u])) := ext (exn hu) (exn hf)
    have f0 : H f = none := Evl.fresh_back (exn hu) hf
    have lens := lens3 (n := ns.length) (xs := fs.map V.int) (ys := gs.map V.int) (us := ns.map V.int) (by rw [List.length_map, skf.len]) (by rw [List.length_map, skg.len]) (by rw [List.length_map])
    refine ⟨_, rfl, _, rfl, _, rfl, [fa, ga, l], rfl, rfl, all3 (sqT (e2 _ _ hfa)) (sqT (e2 _ _ hga)) (sqL (e2 _ _ hl)), ?_⟩
    refine for_it (CZ.walk_rows (xss := [fs.map V.int, gs.map V.int, ns.map V.int]) (n := ns.length) lens) (fun i σ Hx => ∃ (q : Addr) (ms : List (List Int)) (y4 y5 y6 y7 y8 y9 y10 y11 y12 : Option V), σ = [some (.ref l), some (.ref fa), some (.ref ga), some (.ref q), y4, y5, y6, y7, y8, y9, y10, y11, y12] ∧ Ex H Hx ∧ H q = none ∧ RowsAt Hx q ms ∧ ms.length ≤ 2 ^ i ∧ ∀ m ∈ ms, MidU ns fs gs i m) ⟨_, [[]], _, _, _, _, _, _, _, _, _, rfl, e2, f0, ⟨_, upd_same, .cons ⟨u, rfl, by rw [upd_ne (ne_of_none upd_same hf)]; exact upd_same⟩ .nil⟩, by decide, fun m hm => by rw [List.mem_singleton.mp hm]; exact ⟨rfl, fun j n a b x _ _ _ h => by simp at h⟩⟩ (fun i σ Hx _ ⟨_, _, _, _, _, _, _, _, _, _, _, _, e, _⟩ => .cons (sqT (e _ _ hfa)) (.cons (sqT (e _ _ hga)) (.cons (sqL (e _ _ hl)) .nil))) ?_ ?_
    · rintro i x σ Hx H3 hi ⟨q, ms, y4, y5, y6, y7, y8, y9, y10, y11, y12, rfl, ex, nq, ra, lm, hm⟩ yy
      obtain ⟨Ta, a, b, n, rfl, hT, rfl, ha, hb, hn⟩ := yints3 yy
      have n1 := ok.one n (List.mem_of_getElem? hn)
      have eT := exn (o := .tup [.int a, .int b, .int n]) hT
      refine ⟨Ta, _, rfl, SqT.of upd_same, rfl, _, _, rfl, _, _, rfl, _, _, rfl, rfl, ?_⟩
      refine ⟨_, rfl, _, rfl, _, _, rfl, rfl, _, rfl, _, _, rfl, rfl, (by show (0 : Int) < n; omega), ?_⟩
      dsimp only [gName]
      show tSeq _ _ _ [_, _, _, _, _, _, _, _, _, _, _, _, _] _
      refine ⟨slen rfl, ?_⟩
      (intro sm nsm; generalize hGsm : upd _ sm _ = H4; have eH4 := exG hGsm nsm; have hsm := atG hGsm; clear hGsm)
      show tSeq _ _ _ [_, _, _, _, _, _, _, _, _, _, _, _, _] _
      refine ⟨_, rfl, _, rfl, _, rfl, _, _, rfl, rfl, slen rfl, ?_⟩
      (intro tt ntt; generalize hGtt : upd _ tt _ = H5; have eH5 := exG hGtt ntt; have htt := atG hGtt; clear hGtt)
      refine ⟨tt, rfl, ⟨_, SqT.of htt⟩, ?_⟩
      have hsm5 := eH5 _ _ hsm
      have E5 := ext ex (ext eT (ext eH4 eH5))
      obtain ⟨xs, hq0, rq0⟩ := id ra
      have e05 := ext eT (ext eH4 eH5)
      generalize htot : (a + b) % n = t at *
      refine for_it (walk_tup (xs := [V.int t, V.int (t + n)])) (fun j σ Hy => ∃ y9 : Option V, σ = [some (.ref l), some (.ref fa), some (.ref ga), some (.ref q), some (.int a), some (.int b), some (.int n), some (.int t), some (.ref sm), y9, y10, y11, y12] ∧ (∀ c o, c ≠ sm → H5 c = some o → Hy c = some o) ∧ Hy sm = some (.lst (((([t, t + n].take j).filter fun x => decide (x % 2 = 0) && decide (x / 2 < n)).map (· / 2)).map V.int))) ⟨_, rfl, fun c o _ h => h, hsm5⟩ (fun j Hy _ _ ⟨_, _, e, _⟩ => SqT.of (e _ _ (ne_of htt hsm5 (by intro z; cases z)) htt)) ?_ ?_
      · rintro j x σ _ Hy hj ⟨y9, rfl, ey, hsy⟩ ⟨rfl, hx⟩
        obtain ⟨tw, htw, rfl⟩ : ∃ tw, [t, t + n][j]? = some tw ∧ x = V.int tw := by
          match j, hx with
          | 0, hx => exact ⟨t, rfl, (Option.some.inj hx).symm⟩
          | 1, hx => exact ⟨t + n, rfl, (Option.some.inj hx).symm⟩
        dsimp only [gName]
        have tk : [t, t + n].take (j + 1) = [t, t + n].take j ++ [tw] := take_more htw
        rw [tk, List.filter_append, List.map_append, List.map_append]
        have ls : (((([t, t + n].take j).filter fun x => decide (x % 2 = 0) && decide (x / 2 < n)).map (· / 2)).map V.int).length ≤ 2 := by
          rw [List.length_map, List.length_map]
          exact Nat.le_trans (List.length_filter_le _ _) (by rw [List.length_take]; exact Nat.min_le_right _ _)
        refine ⟨_, rfl, _, _, rfl, rfl, (by show (0 : Int) < 2; decide), rfl, _, rfl, ?_⟩
        by_cases c1 : tw % 2 = 0
        · refine itt (by show decide (V.int (tw % 2) = V.int 0) = true; rw [c1]; rfl) ?_
          refine ⟨_, rfl, _, _, rfl, rfl, ⟨by decide, by decide +kernel⟩, _, rfl, _, _, rfl, rfl, _, rfl, ?_⟩
          by_cases c2 : tw / 2 < n
          · refine itt (decide_eq_true c2) ?_
            refine ⟨_, rfl, .inl ⟨rfl, _, SqL.of hsy⟩, _, rfl, _, _, rfl, rfl, ⟨by decide, by decide +kernel⟩, sm, _, _, rfl, rfl, hsy, Nat.lt_of_le_of_lt ls (by decide), _, rfl, fun c o nc z => by rw [upd_ne nc]; exact ey c o nc z, ?_⟩
            rw [upd_same]
            simp [c1, c2]
          · refine itf (decide_eq_false c2) ⟨_, rfl, ey, ?_⟩
            simp only [c1, c2, List.filter_cons, List.filter_nil, decide_true, decide_false, Bool.and_false, Bool.false_eq_true, if_false, List.map_nil, List.append_nil]
            exact hsy
        · refine itf (by show decide (V.int (tw % 2) = V.int 0) = false; rw [dec_int]; exact decide_eq_false c1) ⟨_, rfl, ey, ?_⟩
          simp only [c1, List.filter_cons, List.filter_nil, decide_false, Bool.false_and, Bool.false_eq_true, if_false, List.map_nil, List.append_nil]
          exact hsy
      rintro σ H6 ⟨y9, rfl, e6, hs6⟩
      replace hs6 : H6 sm = some (.lst ((midS t n).map V.int)) := hs6
      have nsmx : Hx sm = none := Evl.fresh_back eT nsm
      have nsm0 : H sm = none := Evl.fresh_back ex nsmx
      have x6 : Ex Hx H6 := fun c o z => e6 c o (ne_of_none z nsmx) (e05 _ _ z)
      have lms : (midS t n).length ≤ 2 := by
        unfold midS
        rw [List.length_map]
        exact Nat.le_trans (List.length_filter_le _ _) (Nat.le_refl 2)
      have lx : xs.length = ms.length := Paired.length rq0
      have hi4 : i < 4 := by
        have : i < ns.length := hi
        omega
      have lm16 : ms.length ≤ 16 := Nat.le_trans lm (show 2 ^ i ≤ 2 ^ 4 from Nat.pow_le_pow_right (by decide) (by omega))
      clear hsm5 hsm htt eH4 eH5 e6
      show tSeq _ _ _ [_, _, _, _, _, _, _, _, _, _, _, _, _] _
      refine ⟨slen rfl, ?_⟩
      (intro L nL; generalize hGL : upd _ L _ = H7; have eH7 := exG hGL nL; have hL := atG hGL; clear hGL)
      have x7 := ext x6 eH7
      refine ⟨_, rfl, q, rfl, ⟨_, SqL.of (x7 _ _ hq0)⟩, ?_⟩
      refine for_it (walk_list (xs := xs)) (fun j σ Hy => ∃ y11 y12 : Option V, σ = [some (.ref l), some (.ref fa), some (.ref ga), some (.ref q), some (.int a), some (.int b), some (.int n), some (.int t), some (.ref sm), y9, some (.ref L), y11, y12] ∧ Ex H6 Hy ∧ RowsAt Hy L (crossX (ms.take j) (midS t n))) ⟨_, _, rfl, eH7, ⟨_, hL, .nil⟩⟩ (fun j Hy _ _ ⟨_, _, _, e, _⟩ => SqL.of (e _ _ (x6 _ _ hq0))) ?_ ?_
      · rintro j x σ _ Hy hj ⟨y11, y12, rfl, ey, rb⟩ ⟨rfl, hx⟩
        obtain ⟨hs, r, hhs, rfl, hr4⟩ := (rq0.mono x6).get hx
        obtain ⟨ys, hy1, hy2⟩ := id rb
        have hsl := (hm hs (List.mem_of_getElem? hhs)).1
        refine ⟨_, rfl, .inl ⟨rfl, _, SqL.of hy1⟩, _, rfl, sm, rfl, ⟨_, SqL.of (ey _ _ hs6)⟩, fun D hD => ?_⟩
        refine lc_rows (walk_list (xs := (midS t n).map V.int)) hs (midS t n) (by simp) (by rw [List.length_map]; omega) hD (fun Hz ez => SqL.of (ez _ _ (ey _ _ hs6))) ?_ gmono_name ?_
        · rintro m x _ Hz R hm2 ez ⟨rfl, hx⟩ kk
          obtain ⟨z, hz, rfl⟩ := map_get hx
          refine ⟨rfl, _, rfl, _, rfl, by show 1 ≤ sizeLine; decide, fun v hv => ?_⟩
          refine cat_row (exn hv _ _ (ez _ _ (ey _ _ hr4))) upd_same (by omega) fun w H9 e9 hw => kk _ w H9 (ext (exn hv) e9) hz hw
        · intro H8 e8 rc
          have neL : L ≠ D := ne_of_none hy1 hD
          obtain ⟨as, bs, g1, g2, g3, g4, g5⟩ := rows_ext (rb.mono e8) rc neL
          refine ⟨L, D, as, bs, rfl, rfl, g1, g2, ?_, ?_⟩
          · simp only [g3, g4, crossX_len, List.length_map, List.length_take]
            have : min j ms.length * (midS t n).length ≤ 16 * 2 := Nat.mul_le_mul (by omega) lms
            exact Nat.le_trans (show _ ≤ 100 by omega) (by decide)
          · refine ⟨_, _, rfl, ex_upd (ext ey e8) nL, ?_⟩
            rw [take_more hhs, crossX_snoc]
            exact g5
      · rintro σ H8 ⟨y11, y12, rfl, ey, rb⟩
        rw [lx, List.take_length] at rb
        refine ⟨_, rfl, L, _, _, _, _, _, _, _, _, _, _, rfl, ext ex (ext x6 ey), Evl.fresh_back (ext ex x6) nL, rb, ?_, ?_⟩
        · rw [crossX_len, Nat.pow_succ]
          exact Nat.mul_le_mul lm lms
        · rw [← htot]
          exact mid_step hn ha hb n1 hm
    · rintro σ Hx ⟨q, ms, y4, y5, y6, y7, y8, y9, y10, y11, y12, rfl, ex, nq, ra, lm, hm⟩
      refine ⟨_, rfl, k q ms Hx ex nq ra (Nat.le_trans lm (show 2 ^ ns.length ≤ 2 ^ 4 from Nat.pow_le_pow_right (by decide) l4)) hm⟩
end

/-! ### any data, read from the heap; B says where its lists may lie -/
mutual
inductive Dq (B : Addr → Prop) (H : Hp) : V → PyData → Prop
  | non : Dq B H .non .none
  | bl (b : Bool) : Dq B H (.bl b) (.bool b)
  | int (i : Int) : Dq B H (.int i) (.int i)
  | str (x : Str) : Dq B H (.str x) (.str x)
  | lst {a : Addr} {xs : List V} {ds : List PyData} : H a = some (.lst xs) → B a → DqAll B H xs ds → Dq B H (.ref a) (.list ds)
  | tup {a : Addr} {xs : List V} {ds : List PyData} : H a = some (.tup xs) → DqAll B H xs ds → Dq B H (.ref a) (.tuple ds)
inductive DqAll (B : Addr → Prop) (H : Hp) : List V → List PyData → Prop
  | nil : DqAll B H [] []
  | cons {v : V} {vs : List V} {d : PyData} {ds : List PyData} : Dq B H v d → DqAll B H vs ds → DqAll B H (v :: vs) (d :: ds)
end
mutual
theorem Dq.to {B B2 : Addr → Prop} {H H2 : Hp} (l : ∀ a xs, B a → H a = some (.lst xs) → H2 a = some (.lst xs) ∧ B2 a) (t : ∀ a xs, H a = some (.tup xs) → H2 a = some (.tup xs)) : ∀ {d : PyData} {v : V}, Dq B H v d → Dq B2 H2 v d
  | _, _, .non => .non
  | _, _, .bl b => .bl b
  | _, _, .int i => .int i
  | _, _, .str x => .str x
  | _, _, .lst h b hs => .lst (l _ _ b h).1 (l _ _ b h).2 (DqAll.to l t hs)
  | _, _, .tup h hs => .tup (t _ _ h) (DqAll.to l t hs)
theorem DqAll.to {B B2 : Addr → Prop} {H H2 : Hp} (l : ∀ a xs, B a → H a = some (.lst xs) → H2 a = some (.lst xs) ∧ B2 a) (t : ∀ a xs, H a = some (.tup xs) → H2 a = some (.tup xs)) : ∀ {ds : List PyData} {vs : List V}, DqAll B H vs ds → DqAll B2 H2 vs ds
  | _, _, .nil => .nil
  | _, _, .cons h hs => .cons (Dq.to l t h) (DqAll.to l t hs)
end
theorem Dq.mono {B : Addr → Prop} {H H2 : Hp} (e : Ex H H2) {d : PyData} {v : V} (h : Dq B H v d) : Dq B H2 v d := h.to (fun _ _ b h => ⟨e _ _ h, b⟩) (fun _ _ h => e _ _ h)
theorem DqAll.mono {B : Addr → Prop} {H H2 : Hp} (e : Ex H H2) {ds : List PyData} {vs : List V} (h : DqAll B H vs ds) : DqAll B H2 vs ds := h.to (fun _ _ b h => ⟨e _ _ h, b⟩) (fun _ _ h => e _ _ h)
mutual
theorem Dq.dp {K : PySem.W.Frag} {B : Addr → Prop} {H : Hp} : ∀ {d : PyData} {v : V}, Dq B H v d → Dp K H v d
  | _, _, .non => .non
  | _, _, .bl b => .bl b
  | _, _, .int i => .int i
  | _, _, .str x => .str x
  | _, _, .lst h _ hs => .lst (SqL.of h) (DqAll.dp hs)
  | _, _, .tup h hs => .tup (SqT.of h) (DqAll.dp hs)
theorem DqAll.dp {K : PySem.W.Frag} {B : Addr → Prop} {H : Hp} : ∀ {ds : List PyData} {vs : List V}, DqAll B H vs ds → DpAll K H vs ds
  | _, _, .nil => .nil
  | _, _, .cons h hs => .cons (Dq.dp h) (DqAll.dp hs)
end
theorem DqAll.ints {B : Addr → Prop} {H : Hp} : ∀ (is : List Int), DqAll B H (is.map V.int) (is.map PyData.int)
  | [] => .nil
  | i :: is => .cons (.int i) (DqAll.ints is)
theorem Dq.ints {B : Addr → Prop} {H : Hp} {a : Addr} {is : List Int} (h : H a = some (.tup (is.map V.int))) : Dq B H (.ref a) (iT is) := .tup h (DqAll.ints is)
/-- an int that is no bool -/
def intD : PyData → Option Int
  | .int i => some i
  | _ => none
theorem Dq.isI {K : PySem.W.Frag} {B : Addr → Prop} {H : Hp} {v : V} {d : PyData} (h : Dq B H v d) : IsI K H v (intD d) := by
  cases h with
  | int i => exact rfl
  | non => exact ⟨_, _, _, .base .non, kit_ty (r := false) (by decide +kernel), kit_ty (r := false) (by decide +kernel), rfl⟩
  | bl b => exact ⟨_, _, _, .base (.bl b), kit_ty (r := true) (by decide +kernel), kit_ty (r := true) (by decide +kernel), rfl⟩
  | str x => exact ⟨_, _, _, .base (.str x), kit_ty (r := false) (by decide +kernel), kit_ty (r := false) (by decide +kernel), rfl⟩
  | lst h _ _ => exact ⟨_, _, _, .base (.lst h), kit_ty (r := false) (by decide +kernel), kit_ty (r := false) (by decide +kernel), rfl⟩
  | tup h _ => exact ⟨_, _, _, .base (.tup h), kit_ty (r := false) (by decide +kernel), kit_ty (r := false) (by decide +kernel), rfl⟩
/-- what is in a tuple -/
def tupD : PyData → Option (List PyData)
  | .tuple ds => some ds
  | _ => none
theorem Dq.isT {K : PySem.W.Frag} {B : Addr → Prop} {H : Hp} {v : V} {d : PyData} (h : Dq B H v d) : ∃ t, TyX K H v t ∧ PySem.W.kitOne K t (.type "tuple") = some (tupD d).isSome := by
  cases h with
  | int i => exact ⟨_, .base (.int i), kit_ty (r := false) (by decide +kernel)⟩
  | non => exact ⟨_, .base .non, kit_ty (r := false) (by decide +kernel)⟩
  | bl b => exact ⟨_, .base (.bl b), kit_ty (r := false) (by decide +kernel)⟩
  | str x => exact ⟨_, .base (.str x), kit_ty (r := false) (by decide +kernel)⟩
  | lst h _ _ => exact ⟨_, .base (.lst h), kit_ty (r := false) (by decide +kernel)⟩
  | tup h _ => exact ⟨_, .base (.tup h), kit_ty (r := true) (by decide +kernel)⟩
theorem Dq.tupA {B : Addr → Prop} {H : Hp} {v : V} {d : PyData} {ds : List PyData} (h : Dq B H v d) (e : tupD d = some ds) : ∃ a xs, v = .ref a ∧ H a = some (.tup xs) ∧ DqAll B H xs ds := by
  cases h with
  | tup h hs => cases e; exact ⟨_, _, rfl, h, hs⟩
  | _ => cases e
theorem DqAll.len {B : Addr → Prop} {H : Hp} : ∀ {xs : List V} {ds : List PyData}, DqAll B H xs ds → xs.length = ds.length
  | _, _, .nil => rfl
  | _, _, .cons _ t => by rw [List.length_cons, List.length_cons, DqAll.len t]
theorem DqAll.get {B : Addr → Prop} {H : Hp} : ∀ {xs : List V} {ds : List PyData} {j : Nat} {x : V}, DqAll B H xs ds → xs[j]? = some x → ∃ d, ds[j]? = some d ∧ Dq B H x d
  | _, _, _, _, .nil, h => by simp at h
  | _, _, 0, _, .cons h _, e => ⟨_, rfl, by obtain rfl := Option.some.inj e; exact h⟩
  | _, _, j + 1, _, .cons _ t, e => DqAll.get (j := j) t (by simpa using e)
/-- whether data is a witness for the sizes, in the order of the tests -/
theorem dq_ints {B : Addr → Prop} {H : Hp} : ∀ {xs : List V} {ws : List PyData}, DqAll B H xs ws → (∀ w ∈ ws, ∃ i, intD w = some i) → ∃ is : List Int, ws = is.map PyData.int ∧ xs = is.map V.int
  | _, _, .nil, _ => ⟨[], rfl, rfl⟩
  | _, _, .cons h t, a => by
    obtain ⟨is, e1, e2⟩ := dq_ints t fun w hw => a w (List.mem_cons_of_mem _ hw)
    obtain ⟨i, hi⟩ := a _ List.mem_cons_self
    cases h with
    | int j => exact ⟨j :: is, by rw [e1]; rfl, by rw [e2]; rfl⟩
    | _ => cases hi
theorem ints_of : ∀ {ws : List PyData}, (∀ w ∈ ws, ∃ i, intD w = some i) → ∃ is : List Int, ws = is.map PyData.int
  | [], _ => ⟨[], rfl⟩
  | w :: ws, a => by
    obtain ⟨is, e1⟩ := ints_of fun w hw => a w (List.mem_cons_of_mem _ hw)
    obtain ⟨i, hi⟩ := a _ List.mem_cons_self
    cases w with
    | int j => exact ⟨j :: is, by rw [e1]; rfl⟩
    | _ => cases hi
theorem fm_ints (is : List Int) : (is.map PyData.int).filterMap intD = is := by
  induction is with
  | nil => rfl
  | cons i is ih => rw [List.map_cons, List.filterMap_cons, ih]; rfl
theorem betw_some {o : Option Int} {a b : Int} (h : between o a b = true) : ∃ i, o = some i ∧ a ≤ i ∧ i ≤ b := by
  cases o with
  | none => cases h
  | some i =>
    have h2 : (decide (a ≤ i) && decide (i ≤ b)) = true := h
    rw [Bool.and_eq_true, decide_eq_true_iff, decide_eq_true_iff] at h2
    exact ⟨i, rfl, h2.1, h2.2⟩
def lstD : PyData → Option (List PyData)
  | .list ds => some ds
  | _ => none
theorem Dq.isL {K : PySem.W.Frag} {B : Addr → Prop} {H : Hp} {v : V} {d : PyData} (h : Dq B H v d) : ∃ t, TyX K H v t ∧ PySem.W.kitOne K t (.type "list") = some (lstD d).isSome := by
  cases h with
  | int i => exact ⟨_, .base (.int i), kit_ty (r := false) (by decide +kernel)⟩
  | non => exact ⟨_, .base .non, kit_ty (r := false) (by decide +kernel)⟩
  | bl b => exact ⟨_, .base (.bl b), kit_ty (r := false) (by decide +kernel)⟩
  | str x => exact ⟨_, .base (.str x), kit_ty (r := false) (by decide +kernel)⟩
  | lst h _ _ => exact ⟨_, .base (.lst h), kit_ty (r := true) (by decide +kernel)⟩
  | tup h _ => exact ⟨_, .base (.tup h), kit_ty (r := false) (by decide +kernel)⟩
theorem Dq.lstA {B : Addr → Prop} {H : Hp} {v : V} {d : PyData} {ds : List PyData} (h : Dq B H v d) (e : lstD d = some ds) : ∃ a xs, v = .ref a ∧ H a = some (.lst xs) ∧ B a ∧ DqAll B H xs ds := by
  cases h with
  | lst h b hs => cases e; exact ⟨_, _, rfl, h, b, hs⟩
  | _ => cases e
theorem Dq.isIB {K : PySem.W.Frag} {B : Addr → Prop} {H : Hp} {v : V} {d : PyData} (h : Dq B H v d) : ∃ t bi bb, TyX K H v t ∧ PySem.W.kitOne K t (.type "int") = some bi ∧ PySem.W.kitOne K t (.type "bool") = some bb ∧ (bi && !bb) = (intD d).isSome ∧ (bi = false → intD d = none) := by
  cases h with
  | int i => exact ⟨_, _, _, .base (.int i), kit_ty (r := true) (by decide +kernel), kit_ty (r := false) (by decide +kernel), rfl, fun z => by cases z⟩
  | non => exact ⟨_, _, _, .base .non, kit_ty (r := false) (by decide +kernel), kit_ty (r := false) (by decide +kernel), rfl, fun _ => rfl⟩
  | bl b => exact ⟨_, _, _, .base (.bl b), kit_ty (r := true) (by decide +kernel), kit_ty (r := true) (by decide +kernel), rfl, fun z => by cases z⟩
  | str x => exact ⟨_, _, _, .base (.str x), kit_ty (r := false) (by decide +kernel), kit_ty (r := false) (by decide +kernel), rfl, fun _ => rfl⟩
  | lst h _ _ => exact ⟨_, _, _, .base (.lst h), kit_ty (r := false) (by decide +kernel), kit_ty (r := false) (by decide +kernel), rfl, fun _ => rfl⟩
  | tup h _ => exact ⟨_, _, _, .base (.tup h), kit_ty (r := false) (by decide +kernel), kit_ty (r := false) (by decide +kernel), rfl, fun _ => rfl⟩
theorem DqAll.set {B : Addr → Prop} {H : Hp} {v : V} {d : PyData} (h : Dq B H v d) : ∀ {xs : List V} {ds : List PyData} (i : Nat), DqAll B H xs ds → DqAll B H (xs.set i v) (ds.set i d)
  | _, _, _, .nil => .nil
  | _, _, 0, .cons _ t => .cons h t
  | _, _, i + 1, .cons q t => .cons q (DqAll.set h i t)
theorem DqAll.app {B : Addr → Prop} {H : Hp} : ∀ {xs ys : List V} {ds es : List PyData}, DqAll B H xs ds → DqAll B H ys es → DqAll B H (xs ++ ys) (ds ++ es)
  | _, _, _, _, .nil, h => h
  | _, _, _, _, .cons q t, h => .cons q (DqAll.app t h)
theorem DqAll.take {B : Addr → Prop} {H : Hp} : ∀ {xs : List V} {ds : List PyData} (n : Nat), DqAll B H xs ds → DqAll B H (xs.take n) (ds.take n)
  | _, _, 0, _ => .nil
  | _, _, _ + 1, .nil => .nil
  | _, _, n + 1, .cons q t => .cons q (DqAll.take n t)
theorem DqAll.drop {B : Addr → Prop} {H : Hp} : ∀ {xs : List V} {ds : List PyData} (n : Nat), DqAll B H xs ds → DqAll B H (xs.drop n) (ds.drop n)
  | _, _, 0, h => h
  | _, _, _ + 1, .nil => .nil
  | _, _, n + 1, .cons _ t => DqAll.drop n t

/-! ### plans as data -/
def oT (d : PyData) : Option (List (Option Int)) := (tupD d).map fun es => es.map intD
def intsD (d : PyData) : List Int := ((tupD d).getD []).filterMap intD
theorem intsD_is (ps : List Int) : intsD (iT ps) = ps := fm_ints ps
/-- no tuple is too long -/
def ShortT (d : PyData) : Prop := ∀ es, tupD d = some es → es.length ≤ 1000
theorem Dq.tA {K : PySem.W.Frag} {B : Addr → Prop} {H : Hp} {v : V} {d : PyData} (h : Dq B H v d) (tb : ShortT d) : TupA K H v (oT d) := by
  have all : ∀ {xs : List V} {ds : List PyData}, DqAll B H xs ds → Paired (IsI K H) xs (ds.map intD) := by
    intro xs ds q
    induction xs generalizing ds with
    | nil => cases q; exact .nil
    | cons x xs ih =>
      cases q with
      | cons a b => exact .cons a.isI (ih b)
  cases h with
  | tup h hs => exact ⟨_, _, rfl, h, by rw [hs.len]; exact tb _ rfl, all hs⟩
  | int i => exact ⟨_, .base (.int i), kit_ty (r := false) (by decide +kernel)⟩
  | non => exact ⟨_, .base .non, kit_ty (r := false) (by decide +kernel)⟩
  | bl b => exact ⟨_, .base (.bl b), kit_ty (r := false) (by decide +kernel)⟩
  | str x => exact ⟨_, .base (.str x), kit_ty (r := false) (by decide +kernel)⟩
  | lst h _ _ => exact ⟨_, .base (.lst h), kit_ty (r := false) (by decide +kernel)⟩
theorem betw_all : ∀ {ns : List Int} {ws : List PyData}, ws.length = ns.length → (List.zipWith (fun o n => between o 0 (n - 1)) (ws.map intD) ns).all id = true → ∃ ps : List Int, ws = ps.map PyData.int ∧ SeatOk ns ps
  | [], [], _, _ => ⟨[], rfl, True.intro⟩
  | n :: ns, w :: ws, l, h => by
    rw [List.map_cons, List.zipWith_cons_cons, List.all_cons, Bool.and_eq_true] at h
    obtain ⟨ps, rfl, sk⟩ := betw_all (ns := ns) (ws := ws) (by simpa using l) h.2
    obtain ⟨i, e, i0, i1⟩ := betw_some (show between (intD w) 0 (n - 1) = true from h.1)
    cases w with
    | int j =>
      cases e
      exact ⟨_ :: ps, rfl, ⟨i0, by omega⟩, sk⟩
    | _ => cases e
theorem seat_ints {ns : List Int} {d : PyData} (h : isSeatO ns (oT d) = true) : ∃ ps, d = iT ps ∧ SeatOk ns ps := by
  cases d with
  | tuple ws =>
    have h : (decide ((ws.map intD).length = ns.length) && (List.zipWith (fun o n => between o 0 (n - 1)) (ws.map intD) ns).all id) = true := h
    rw [Bool.and_eq_true, decide_eq_true_iff, List.length_map] at h
    obtain ⟨ps, rfl, sk⟩ := betw_all h.1 h.2
    exact ⟨ps, rfl, sk⟩
  | _ => cases h
theorem call_ints {ns : List Int} {d : PyData} (h : isCallO ns (oT d) = true) : ∃ cs, d = iT cs ∧ cs.length = ns.length := by
  cases d with
  | tuple ws =>
    have h : (decide ((ws.map intD).length = ns.length) && ((ws.map intD).map Option.isSome).all id) = true := h
    rw [Bool.and_eq_true, decide_eq_true_iff, List.length_map, List.all_eq_true] at h
    obtain ⟨cs, rfl⟩ := ints_of (ws := ws) fun w hw => Option.isSome_iff_exists.mp (h.2 _ (List.mem_map.mpr ⟨_, List.mem_map.mpr ⟨w, hw, rfl⟩, rfl⟩))
    exact ⟨cs, rfl, by rw [← h.1, List.length_map]⟩
  | _ => cases h
/-- what an entry adds to the numbers fs -/
def entD (ns : List Int) (fs : List (List Int × Nat)) (ds dc : PyData) : Option (List Int × Nat) :=
  if isSeatO ns (oT ds) = true then
    if isCallO ns (oT dc) = true then
      match dep fs (intsD ds) with
      | some _ => none
      | none => match dep fs (shiftL ns (intsD ds) (intsD dc) 1) with
        | none => none
        | some x => match dep fs (shiftL ns (intsD ds) (intsD dc) (-1)) with
          | none => none
          | some y => some (intsD ds, max x y + 1)
    else none
  else none
def entO (ns : List Int) (fs : List (List Int × Nat)) (d : PyData) : Option (List Int × Nat) := match tupD d with
  | some [ds, dc] => entD ns fs ds dc
  | _ => none
/-- the entries of a plan in turn -/
def goP (ns : List Int) (tss : List (List Int)) : List PyData → List (List Int × Nat) → Int ⊕ List (List Int × Nat)
  | [], zs => .inr zs
  | d :: ds, zs => match entO ns (atD 0 tss ++ zs) d with
    | some z => goP ns tss ds (zs ++ [z])
    | none => .inl (zs.length : Int)
def planR (ns : List Int) (tss : List (List Int)) (d : PyData) : Int ⊕ List (List Int × Nat) := match lstD d with
  | some ds => goP ns tss ds []
  | none => .inl (-1)
def numV : Option (List Int × Nat) → V
  | some z => .int (z.2 : Int)
  | none => .non
/-- the parts of an entry are short -/
def EntT (d : PyData) : Prop := ∀ es, tupD d = some es → ∀ e ∈ es, ShortT e

theorem kb_plan_depths_210 {K : PySem.W.Frag} {mg : Str → Option Value} (T : TX K mg) : KBn K T.fd_plan_depths ["table", "targets", "plan"] 0 ["plan", "targets", "table"] (fun us ws => pick [2, 1, 0] (us ++ ws)) (fun vs zs => pick [2, 1, 0] (vs ++ zs)) :=
  kbn_of T.F_plan_depths 0 ["plan", "targets", "table"] [2, 1, 0] fun _ _ _ _ _ _ us ws h1 h2 => match us, ws, h1, h2 with | [], [_, _, _], _, _ => rfl
section
variable {P : Program} {w : World} {K : PySem.W.Frag} {mg : Str → Option Value} {base : Heap}
def sp_entry_depth (C : Addr) : Sp := fun vs H Q _ => ∃ (B : Addr → Prop) (a D : Addr) (x : V) (ns : List Int) (fs : List (List Int × Nat)) (e : PyData), vs = [.ref a, .ref D, x] ∧ TabAt C H a ns ∧ SzOk ns ∧ CntAt H D fs ∧ Dq B H x e ∧ EntT e ∧ ∀ H2, Ex H H2 → Q (numV (entO ns fs e)) H2
theorem ok_entry_depth (T : TX K mg) : FnOk P w K mg base CX0 6 T.f_entry_depth T.fd_entry_depth ["table", "depths", "entry"] (sp_entry_depth T.C_Table) := by
  refine T.F_entry_depth.ok sc_entry_depth (fun vs H Q E h => ?_) (fun cdv A outer s H vs Q E hr h => ?_)
  · obtain ⟨B, a, D, x, ns, fs, e, rfl, _⟩ := h
    rfl
  · obtain ⟨B, a, D, x, ns, fs, e, rfl, tab, ok, hD, dq, eT, k⟩ := h
    refine ⟨_, (pss_cons (ps_if (PW.pt (pw_or (pt_not (pt_val (pe_callB call_isi (by rfl) T.z_isinstance (by decide +kernel) (pa_cons (pv 2) (pa_cons (pe_bltn (v := .ty "tuple") rfl T.z_tuple (by decide +kernel) rfl) pa_nil))))) (pw_or1 (pt_cmpR op_ne (pe_callB call_len_seq (by rfl) T.z_len (by decide +kernel) (pa_cons (pv 2) pa_nil)) pe_int (nomark _))))) (pss_one (ps_ret pe_non)) pss_nil) (pss_cons (ps_asg (pv 2) (pg_tup rfl (pgs_cons (pg_name (i := 3) sc_entry_depth.nd rfl (Or.inl rfl)) (pgs_cons (pg_name (i := 4) sc_entry_depth.nd rfl (Or.inl rfl)) pgs_nil)))) (pss_cons (ps_if (PW.pt (pw_or (pt_not (pt_val (pe_meth (pv 0) T.cl_Table T.me_Table_is_seat (ok_Table_is_seat T) (hr.mono (by decide)) T.b_Table_is_seat .nil pass0 (pa_cons (pv 3) pa_nil)))) (pw_or (pt_not (pt_val (pe_meth (pv 0) T.cl_Table T.me_Table_is_call (ok_Table_is_call T) (hr.mono (by decide)) T.b_Table_is_call .nil pass0 (pa_cons (pv 4) pa_nil)))) (pw_or1 (pt_cmp (pc_din (hu_of hr) (pv 3) (pv 1))))))) (pss_one (ps_ret pe_non)) pss_nil) (pss_cons (ps_set (i := 5) sc_entry_depth.nd rfl (Or.inl rfl) (pe_meth (pv 0) T.cl_Table T.me_Table_moves (ok_Table_moves T) hr T.b_Table_moves .nil pass0 (pa_cons (pv 3) (pa_cons (pv 4) pa_nil)))) (pss_cons (ps_if (pt_not (pt_val (pe_callB (cr_all rfl) (by rfl) T.z_all (by decide +kernel) (pa_cons (pe_lc (own := [("one", 6)]) (g := (gName 6)) rfl sc_entry_depth.nd (pi_tup (pv 5)) (blkOk_by (N := N_entry_depth) (sc := defScope s_entry_depth) (by decide +kernel)) (fun _ _ _ _ _ => (pg_name (i := 6) sc_entry_depth.nd rfl (Or.inl rfl))) (fun _ _ _ _ _ => pts_nil) (fun _ _ _ _ _ => (pe_cmp (pc_din (hu_of hr) (pv 6) (pv 1))))) pa_nil)))) (pss_one (ps_ret pe_non)) pss_nil) (pss_one (ps_ret (pe_op op_add pe_int (pe_callB (cr_max rfl) (by rfl) T.z_max (by decide +kernel) (pa_cons (pe_lc (own := [("one", 6)]) (g := (gName 6)) rfl sc_entry_depth.nd (pi_tup (pv 5)) (blkOk_by (N := N_entry_depth) (sc := defScope s_entry_depth) (by decide +kernel)) (fun _ _ _ _ _ => (pg_name (i := 6) sc_entry_depth.nd rfl (Or.inl rfl))) (fun _ _ _ _ _ => pts_nil) (fun _ _ _ _ _ => (pe_dget (hu_of hr) (pv 1) (pv 6) (fun _ _ => rfl)))) pa_nil)))))))))), ?_⟩
    obtain ⟨dx, t, ht1, ht2⟩ := id tab
    have l4 := ok.le
    obtain ⟨ty, hty, hkit⟩ := dq.isT (K := K)
    refine ⟨_, rfl, _, _, _, _, _, rfl, .ty _, hty, hkit, _, rfl, ?_⟩
    cases et : tupD e with
    | none =>
      refine itt rfl ?_
      have q : entO ns fs e = none := by unfold entO; rw [et]
      rw [q] at k
      exact k _ exr
    | some es =>
    refine itf rfl ?_
    obtain ⟨r, xs, rfl, hre, all⟩ := dq.tupA et
    refine ⟨_, rfl, r, _, rfl, .inr (SqT.of hre), rfl, _, rfl, ?_⟩
    have lxs := all.len
    by_cases c2 : es.length = 2
    rotate_left
    · refine itt (by rw [lxs]; simp; omega) ?_
      have q : entO ns fs e = none := by
        unfold entO
        rw [et]
        match es, c2 with
        | [], _ => rfl
        | [_], _ => rfl
        | [_, _], z => exact absurd rfl z
        | _ :: _ :: _ :: _, _ => rfl
      rw [q] at k
      exact k _ exr
    refine itf (by rw [lxs, c2]; simp) ?_
    obtain ⟨ds, dc, rfl⟩ : ∃ ds dc, es = [ds, dc] := by
      match es, c2 with
      | [a, b], _ => exact ⟨a, b, rfl⟩
    obtain ⟨v1, v2, rfl⟩ : ∃ v1 v2, xs = [v1, v2] := by
      match xs, lxs with
      | [a, b], _ => exact ⟨a, b, rfl⟩
    obtain ⟨q1, q2⟩ : Dq B H v1 ds ∧ Dq B H v2 dc := by
      cases all with
      | cons a b => cases b with
        | cons c d => exact ⟨a, c⟩
    have sds : ShortT ds := eT _ et ds (by simp)
    have sdc : ShortT dc := eT _ et dc (by simp)
    have eo : entO ns fs e = entD ns fs ds dc := by unfold entO; rw [et]
    rw [eo] at k
    dsimp only [tNext]
    refine ⟨_, rfl, r, _, rfl, SqT.of hre, rfl, _, _, rfl, _, _, rfl, rfl, ?_⟩
    refine ⟨_, rfl, a, dx, _, rfl, ht1, rfl, _, rfl, a, _, ns, _, rfl, tab, l4, q1.tA sds, fun H1 e1 => ?_⟩
    cases is : isSeatO ns (oT ds) with
    | false =>
      refine ⟨_, rfl, itt rfl ?_⟩
      have q : entD ns fs ds dc = none := by unfold entD; rw [if_neg (by rw [is]; simp)]
      rw [q] at k
      exact k _ e1
    | true =>
    refine ⟨_, rfl, itf rfl ?_⟩
    refine ⟨_, rfl, a, dx, _, rfl, e1 _ _ ht1, rfl, _, rfl, a, _, ns, _, rfl, tab.mono e1, (q2.mono e1).tA sdc, fun H2 e2 => ?_⟩
    have E2 := ext e1 e2
    cases ic : isCallO ns (oT dc) with
    | false =>
      refine ⟨_, rfl, itt rfl ?_⟩
      have q : entD ns fs ds dc = none := by unfold entD; rw [if_pos is, if_neg (by rw [ic]; simp)]
      rw [q] at k
      exact k _ E2
    | true =>
    refine ⟨_, rfl, itf rfl ?_⟩
    obtain ⟨p, rfl, sp⟩ := seat_ints is
    obtain ⟨cs, rfl, lc⟩ := call_ints ic
    have at1 : ∀ {v : V} {ps : List Int}, Dq B H v (iT ps) → ∃ c, v = .ref c ∧ H c = some (.tup (ps.map V.int)) := fun {v ps} q => by
      obtain ⟨c, xs, rfl, hc, hall⟩ := q.tupA (ds := ps.map PyData.int) rfl
      obtain ⟨is, a1, a2⟩ := dq_ints hall fun w hw => by
        obtain ⟨i, _, rfl⟩ := List.mem_map.mp hw
        exact ⟨i, rfl⟩
      have a3 : is = ps := by
        have := congrArg (List.filterMap intD) a1
        rw [fm_ints, fm_ints] at this
        exact this.symm
      subst a3
      subst a2
      exact ⟨c, rfl, hc⟩
    obtain ⟨c, rfl, hc⟩ := at1 q1
    obtain ⟨d, rfl, hd⟩ := at1 q2
    have ee : entD ns fs (iT p) (iT cs) = match dep fs p with
        | some _ => none
        | none => match dep fs (shiftL ns p cs 1) with
          | none => none
          | some x => match dep fs (shiftL ns p cs (-1)) with
            | none => none
            | some y => some (p, max x y + 1) := by
      unfold entD
      rw [if_pos is, if_pos ic, intsD_is, intsD_is] <;> rfl
    rw [ee] at k
    clear ee eo
    have lp := sp.len
    refine ⟨_, rfl, _, rfl, D, _, rfl, cnt_get (hD.mono E2) (E2 _ _ hc), _, rfl, ?_⟩
    rw [Option.isSome_map]
    cases hn : dep fs p with
    | some z =>
      refine itt rfl ?_
      rw [hn] at k
      exact k _ E2
    | none =>
    refine itf rfl ?_
    rw [hn] at k
    dsimp only [tNext]
    refine ⟨_, rfl, a, dx, _, rfl, E2 _ _ ht1, rfl, _, rfl, _, rfl, a, c, d, ns, p, cs, rfl, tab.mono E2, ok, E2 _ _ hc, E2 _ _ hd, sp, lc, fun H5 qq ff bb e5 nq nf2 nb hq hf5 hb5 => ?_⟩
    dsimp only [gName]
    have hD5 := hD.mono (ext E2 e5)
    have E5 := ext E2 e5
    have two : Paired (fun v (pp : List Int) => ∃ (rr : Addr), v = V.ref rr ∧ H5 rr = some (.tup (pp.map V.int))) [V.ref ff, V.ref bb] [shiftL ns p cs 1, shiftL ns p cs (-1)] := .cons ⟨ff, rfl, hf5⟩ (.cons ⟨bb, rfl, hb5⟩ .nil)
    refine ⟨_, rfl, qq, rfl, ⟨_, SqT.of hq⟩, fun Bl hB => ?_⟩
    refine lc_vals (walk_tup (xs := [V.ref ff, V.ref bb])) (([shiftL ns p cs 1, shiftL ns p cs (-1)].map fun pp => (dep fs pp).isSome).map V.bl) rfl (Nat.le_of_ble_eq_true rfl) hB (fun Hw ew => SqT.of (ew _ _ hq)) ?_ gmono_name ?_
    · rintro j v _ Hw R hj ew ⟨rfl, hv⟩ kk
      obtain ⟨pp, hz, rr, rfl, hrr⟩ := paired_get two hv
      refine ⟨rfl, _, rfl, _, rfl, D, _, rfl, cnt_get (hD5.mono ew) (ew _ _ hrr), ?_⟩
      rw [Option.isSome_map]
      refine kk _ _ exr ?_
      rw [List.getElem?_map, List.getElem?_map, hz]
      rfl
    intro H6 e6 hB6
    refine ⟨Bl, _, rfl, SqL.of hB6, _, rfl, ?_⟩
    cases hx : dep fs (shiftL ns p cs 1) with
    | none =>
      refine itt (by simp [hx]) ?_
      rw [hx] at k
      exact k _ (ext E5 e6)
    | some x =>
    cases hy : dep fs (shiftL ns p cs (-1)) with
    | none =>
      refine itt (by simp [hy]) ?_
      rw [hx, hy] at k
      exact k _ (ext E5 e6)
    | some y =>
    rw [hx, hy] at k
    refine itf (by simp [hx, hy]) ?_
    dsimp only [tNext]
    have two : Paired (fun v z => ∃ (rr : Addr) (pp : List Int), v = V.ref rr ∧ H5 rr = some (.tup (pp.map V.int)) ∧ dep fs pp = some z) [V.ref ff, V.ref bb] [x, y] := .cons ⟨ff, _, rfl, hf5, hx⟩ (.cons ⟨bb, _, rfl, hb5, hy⟩ .nil)
    refine ⟨_, rfl, qq, rfl, ⟨_, SqT.of (e6 _ _ hq)⟩, fun M hM => ?_⟩
    refine lc_vals (walk_tup (xs := [V.ref ff, V.ref bb])) ([x, y].map fun (z : Nat) => V.int (z : Int)) rfl (Nat.le_of_ble_eq_true rfl) hM (fun Hw ew => SqT.of (ew _ _ (e6 _ _ hq))) ?_ gmono_name ?_
    · rintro j v _ Hw R hj ew ⟨rfl, hv⟩ kk
      obtain ⟨z, hz, rr, pp, rfl, hrr, hdz⟩ := paired_get two hv
      have hg := cnt_get (hD5.mono (ext e6 ew)) (ext e6 ew _ _ hrr)
      rw [hdz] at hg
      refine ⟨rfl, _, rfl, _, rfl, D, V.int (z : Int), rfl, hg, ?_⟩
      refine kk _ _ exr ?_
      rw [List.getElem?_map, hz]
      rfl
    intro H7 e7 hM7
    refine ⟨M, [(x : Int), (y : Int)], rfl, SqL.of hM7, Nat.succ_pos _, fun mx m1 m2 => ⟨1, mx, rfl, rfl, ?_⟩⟩
    have e : 1 + mx = ((max x y + 1 : Nat) : Int) := by
      have := m2 x (by simp)
      have := m2 y (by simp)
      simp only [List.mem_cons, List.not_mem_nil, or_false] at m1
      rcases m1 with rfl | rfl <;> omega
    show Q (V.int (1 + mx)) H7
    rw [e]
    exact k _ (ext E5 (ext e6 e7))
end

theorem keys_atD (d : Nat) (ps : List (List Int)) : keysL (atD d ps) = ps := by
  unfold keysL atD
  rw [List.map_map]
  exact List.map_id _
theorem atD_snoc (d : Nat) (ps : List (List Int)) (p : List Int) : atD d (ps ++ [p]) = atD d ps ++ [(p, d)] := List.map_append
theorem dep_none {fs : List (List Int × Nat)} {p : List Int} (h : p ∉ keysL fs) : dep fs p = none := by
  have := dep_isSome (fs := fs) (p := p)
  rw [decide_eq_false h] at this
  exact Option.isSome_eq_false_iff.mp this |> Option.isNone_iff_eq_none.mp
theorem SqH.either {K : PySem.W.Frag} {H : Hp} : ∀ {q : Bool × Addr} {xs : List V}, SqH H q xs → SqL K H q.2 xs ∨ SqT K H q.2 xs
  | (false, _), _, h => .inl (SqL.of h)
  | (true, _), _, h => .inr (SqT.of h)
theorem eqv_ne' {css : List (List Int)} (ne : css ≠ []) : (!PyData.eqv (.list (css.map iT)) (.list (([] : List (List Int)).map iT))) = true := by
  cases css with
  | nil => exact absurd rfl ne
  | cons c r => simp [PyData.eqv, PyData.eqvAll]
theorem nodup_take {α : Type} {l : List α} (nod : l.Nodup) {i : Nat} {x : α} (h : l[i]? = some x) : x ∉ l.take i := fun z => by
  obtain ⟨j, hj⟩ := List.mem_iff_getElem?.mp z
  have jl : j < i := by
    have := (List.getElem?_eq_some_iff.mp hj).1
    rw [List.length_take] at this
    omega
  rw [List.getElem?_take_of_lt jl] at hj
  exact absurd ((List.getElem?_inj (List.getElem?_eq_some_iff.mp hj).1 nod).mp (hj.trans h.symm)) (by omega)
theorem merge_new {e : Nat} : ∀ {nw : List (List Int)} {fs : List (List Int × Nat)}, (∀ p ∈ nw, p ∉ keysL fs) → nw.Nodup → CD.mergeT (fs.map entV) ((atD e nw).map entV) = (fs ++ atD e nw).map entV
  | [], fs, _, _ => by simp [CD.mergeT]
  | p :: nw, fs, h, nod => by
    have hp := h p List.mem_cons_self
    show CD.mergeT (putK (fs.map entV) (entK p) (V.int (e : Int))) ((atD e nw).map entV) = _
    rw [putK_new _ (by rw [val_ent, dep_none hp]; rfl), show fs.map entV ++ [(entK p, V.int (e : Int))] = (fs ++ [(p, e)]).map entV by rw [List.map_append]; rfl, merge_new ?_ (List.nodup_cons.mp nod).2]
    · rw [List.append_assoc]
      rfl
    · intro r hr z
      rw [keys_app] at z
      rcases List.mem_append.mp z with z | z
      · exact h r (List.mem_cons_of_mem _ hr) z
      · have : r = p := List.mem_singleton.mp z
        exact (List.nodup_cons.mp nod).1 (this ▸ hr)
section
variable {P : Program} {w : World} {K : PySem.W.Frag} {mg : Str → Option Value} {base : Heap}
end

/-! ### comprehensions of new tuples -/
theorem paired_mono {α : Type} {P Q : V → α → Prop} (h : ∀ v a, P v a → Q v a) : ∀ {xs : List V} {as : List α}, Paired P xs as → Paired Q xs as
  | _, _, .nil => .nil
  | _, _, .cons q t => .cons (h _ _ q) (paired_mono h t)
theorem paired_snoc {α : Type} {P : V → α → Prop} {v : V} {a : α} (h : P v a) : ∀ {xs : List V} {as : List α}, Paired P xs as → Paired P (xs ++ [v]) (as ++ [a])
  | _, _, .nil => .cons h .nil
  | _, _, .cons q t => .cons q (paired_snoc h t)
theorem lc_new {α : Type} (Pd : Hp → V → α → Prop) (mono : ∀ (H H2 : Hp) (v : V) (a : α), (∀ c xs, H c = some (.tup xs) → H2 c = some (.tup xs)) → Pd H v a → Pd H2 v a)
    {J : It} {n : Nat} {G : Hp → Prop} {Y : Nat → Hp → V → Hp → Prop} (w : Walk J n G Y) {g : TG} {te : TE} {vs : List Nat} {σ : L2.St} {H1 : Hp} {D : Addr} {Qd : Hp → Prop} (as : List α) (hn : as.length = n) (hl : n ≤ 10000000) (hD : H1 D = none)
    (hG : ∀ H, Ex H1 H → G H)
    (hs : ∀ i x a H H2 (R : VK), as[i]? = some a → Ex H1 H → Y i H x H2 → (∀ v H5, Ex H H5 → Pd H5 v a → R v H5) → g x (wipe σ vs) H2 fun σ2 H3 => wipe σ2 vs = wipe σ vs ∧ te σ2 H3 R)
    (hg : ∀ x σ2 H2 (R R2 : L2.St → Hp → Prop), (∀ σ3 H3, R σ3 H3 → R2 σ3 H3) → g x σ2 H2 R → g x σ2 H2 R2)
    (hd : ∀ H xs, Ex H1 H → H D = some (.lst xs) → Paired (Pd H) xs as → Qd H) :
    ∃ W : Nat → Nat → Hp → Prop, (∃ m, W 0 m (upd H1 D (.lst []))) ∧ ∀ i m H, W i m H →
      (J.stop i H ∧ Qd H) ∨ (J.go i H ∧ ∃ Nx : Hp → Prop, (∀ H2, Nx H2 → ∃ m2, m2 < m ∧ W (i + 1) m2 H2) ∧ ∀ x H2, J.yld i H x H2 → g x (wipe σ vs) H2 fun σ2 H3 => wipe σ2 vs = wipe σ vs ∧ tYes σ2 H3 fun b H4 =>
        if b = true then te σ2 H4 fun y H5 => ∃ acc, H5 D = some (.lst acc) ∧ acc.length < sizeLine ∧ Nx (upd H5 D (.lst (acc ++ [y]))) else Nx H4) := by
  refine lc_it w (fun i H => Ex H1 H ∧ ∃ xs, H D = some (.lst xs) ∧ Paired (Pd H) xs (as.take i)) ⟨exn hD, [], upd_same, .nil⟩ (fun i H _ p => hG H p.1) (fun i x H H2 hi p y => ?_) (fun H p => ?_)
  · obtain ⟨a, ha⟩ : ∃ a, as[i]? = some a := ⟨_, List.getElem?_eq_getElem (by omega)⟩
    refine hg _ _ _ _ _ (fun σ3 H3 q => ⟨q.1, q.2⟩) (hs i x a H H2 (fun y H5 => ∃ acc, H5 D = some (.lst acc) ∧ acc.length < sizeLine ∧ Ex H1 (upd H5 D (.lst (acc ++ [y]))) ∧ ∃ xs, upd H5 D (.lst (acc ++ [y])) D = some (.lst xs) ∧ Paired (Pd (upd H5 D (.lst (acc ++ [y])))) xs (as.take (i + 1))) ha p.1 y fun v H5 e hv => ?_)
    obtain ⟨p1, xs, p2, p3⟩ := p
    have tp : ∀ c zs, H5 c = some (.tup zs) → upd H5 D (.lst (xs ++ [v])) c = some (.tup zs) := fun c zs z => by
      rw [upd_ne (ne_of z (e _ _ p2) (by intro q; cases q))]
      exact z
    refine ⟨xs, e _ _ p2, ?_, ex_upd (ext p1 e) hD, xs ++ [v], upd_same, ?_⟩
    · rw [Paired.length p3, List.length_take]
      exact Nat.lt_of_le_of_lt (Nat.le_trans (Nat.min_le_right _ _) (by rw [hn]; exact hl)) (by decide)
    · rw [take_more ha]
      refine paired_snoc (mono _ _ _ _ tp hv) (paired_mono (fun v a q => mono _ _ _ _ tp (mono _ _ _ _ (fun c zs z => e _ _ z) q)) p3)
  · obtain ⟨p1, xs, p2, p3⟩ := p
    rw [List.take_of_length_le (by omega)] at p3
    exact hd H xs p1 p2 p3
def PdRow (H : Hp) (x : V) (hs : List Int) : Prop := ∃ r, x = V.ref r ∧ H r = some (.tup (hs.map V.int))
theorem pdrow_mono (H H2 : Hp) (v : V) (a : List Int) (e : ∀ c xs, H c = some (.tup xs) → H2 c = some (.tup xs)) (h : PdRow H v a) : PdRow H2 v a := by
  obtain ⟨r, h1, h2⟩ := h
  exact ⟨r, h1, e _ _ h2⟩

theorem tup_pshL {q D : Addr} {H : Hp} {xs ys : List V} {o : HO} (hD : H D = some (.lst xs)) (h : H q = some (.tup ys)) : upd H D o q = some (.tup ys) := by
  rw [upd_ne (ne_of h hD (by intro z; cases z))]
  exact h

/-- an exception with one field -/
def sp_exi (C : Addr) (f : Str) : Sp := fun vs H Q _ => ∃ (a : Addr) (x : V), vs = [.ref a, x] ∧ H a = some (exo a C none) ∧ ∀ dx, H dx = none → dx ≠ a → Q .non (upd (upd H dx (exd dx [(f, x)])) a (exo a C (some dx)))
theorem exc_made {H : Hp} {a C : Addr} {f : Str} {x : V} {E E1 : XK} (na : H a = none) (k : ∀ d H2, Ex H H2 → H2 d = some (.xd [(f, x)]) → E (.ref C) (some d) H2) :
    sp_exi C f [.ref a, x] (upd H a (exo a C none)) (fun v H2 => v = .non ∧ ∃ (d : Addr) (fs : List (Str × V)), H2 a = some (exo a C (some d)) ∧ H2 d = some (exd d fs) ∧ H d = none ∧ E (.ref C) (some d) (upd (del H2 a) d (.xd fs))) E1 := by
  refine ⟨a, x, rfl, upd_same, fun dx hd ne => ⟨rfl, dx, _, upd_same, by rw [upd_ne ne, upd_same], by rw [upd_ne ne] at hd; exact hd, k _ _ (fun c o hc => ?_) upd_same⟩⟩
  have ca : c ≠ a := ne_of_none hc na
  have cd : c ≠ dx := ne_of_none hc (by rw [upd_ne ne] at hd; exact hd)
  rw [upd_ne cd, del_ne ca, upd_ne ca, upd_ne cd, upd_ne ca]
  exact hc

theorem entO_some {ns : List Int} {fs : List (List Int × Nat)} {e : PyData} {z : List Int × Nat} (h : entO ns fs e = some z) : ∃ cs : List Int, e = .tuple [iT z.1, iT cs] ∧ SeatOk ns z.1 ∧ cs.length = ns.length ∧ dep fs z.1 = none ∧ ∃ x y, dep fs (shiftL ns z.1 cs 1) = some x ∧ dep fs (shiftL ns z.1 cs (-1)) = some y ∧ z.2 = max x y + 1 := by
  unfold entO at h
  split at h
  · rename_i ds dc et
    unfold entD at h
    split at h
    · rename_i is
      split at h
      · rename_i ic
        obtain ⟨p, rfl, sp⟩ := seat_ints is
        obtain ⟨cs, rfl, lc⟩ := call_ints ic
        rw [intsD_is, intsD_is] at h
        split at h
        · cases h
        · rename_i hn
          split at h
          · cases h
          · rename_i x hx
            split at h
            · cases h
            · rename_i y hy
              obtain rfl := Option.some.inj h
              refine ⟨cs, ?_, sp, lc, hn, x, y, hx, hy, rfl⟩
              cases e with
              | tuple ws => cases et; rfl
              | _ => cases et
      · cases h
    · cases h
  · cases h
/-- seats with numbers, as pairs -/
def PdS (H : Hp) (x : V) (e : List Int × Nat) : Prop := ∃ r c, x = V.ref r ∧ H r = some (.tup [.ref c, .int (e.2 : Int)]) ∧ H c = some (.tup (e.1.map V.int))
theorem pds_mono (H H2 : Hp) (v : V) (a : List Int × Nat) (e : ∀ c xs, H c = some (.tup xs) → H2 c = some (.tup xs)) (h : PdS H v a) : PdS H2 v a := by
  obtain ⟨r, c, h1, h2, h3⟩ := h
  exact ⟨r, c, h1, e _ _ h2, e _ _ h3⟩
/-- a plan that is a list is short -/
def PlanT (d : PyData) : Prop := ∀ ds, lstD d = some ds → ds.length ≤ 1000 ∧ ∀ e ∈ ds, EntT e
section
variable {P : Program} {w : World} {K : PySem.W.Frag} {mg : Str → Option Value} {base : Heap}
theorem ok_InvalidWitness_init (T : TX K mg) : FnOk P w K mg base CX0 1 T.f_InvalidWitness_init T.fd_InvalidWitness_init ["self", "index"] (sp_exi T.C_InvalidWitness "index") := by
  refine T.F_InvalidWitness_init.ok sc_InvalidWitness_init (fun vs H Q E h => ?_) (fun cdv A outer s H vs Q E hr h => ?_)
  · obtain ⟨a, x, rfl, _⟩ := h
    rfl
  · obtain ⟨a, x, rfl, ha, k⟩ := h
    refine ⟨_, (pss_one (ps_ost (pv 0) (pv 1))), ?_⟩
    exact ⟨_, rfl, _, rfl, a, _, rfl, T.ox_InvalidWitness, T.n_InvalidWitness_index, .inl ⟨ha, fun dx n ne => k dx n ne⟩⟩
def spX_plan_depths (C CX : Addr) : Sp := fun vs H Q E => ∃ (B : Addr → Prop) (a : Addr) (q : Bool × Addr) (x : V) (ns : List Int) (tss : List (List Int)) (d : PyData), vs = [.ref a, .ref q.2, x] ∧ TabAt C H a ns ∧ SzOk ns ∧ RowsQ H q tss ∧ tss ≠ [] ∧ tss.length ≤ 1000 ∧ (∀ ts ∈ tss, SeatOk ns ts) ∧ tss.Nodup ∧ Dq B H x d ∧ PlanT d ∧
  (∀ i, planR ns tss d = .inl i → ∀ dd H2, Ex H H2 → H2 dd = some (.xd [("index", .int i)]) → E (.ref CX) (some dd) H2) ∧
  (∀ zs, planR ns tss d = .inr zs → ∀ (f : Addr) (ys : List V) H2, Ex H H2 → H f = none → H2 f = some (.lst ys) → Paired (PdS H2) ys zs → Q (.ref f) H2)
theorem okX_plan_depths (T : TX K mg) : FnOk P w K mg base (L2.CX P w) 7 T.f_plan_depths T.fd_plan_depths ["table", "targets", "plan"] (spX_plan_depths T.C_Table T.C_InvalidWitness) := by
  refine T.F_plan_depths.okX sc_plan_depths (fun vs H Q E h => ?_) (fun cdv A outer s H vs Q E hr h => ?_)
  · obtain ⟨B, a, q, x, ns, tss, d, rfl, _⟩ := h
    rfl
  · obtain ⟨B, a, q, x, ns, tss, d, rfl, tab, ok, ⟨gs, hq, rr⟩, ne, lt, sks, nod, dq, pT, kE, kQ⟩ := h
    refine ⟨_, (pss_cons (ps_expr (pe_call (ok_require_table T) (hr.mono (by decide)) rfl T.m_require_table T.F_require_table.kp T.b_require_table .nil pass0 (pa_cons (pv 0) pa_nil))) (pss_cons (ps_expr (pe_call (ok_require_targets T) (hr.mono (by decide)) rfl T.m_require_targets T.F_require_targets.kp T.b_require_targets .nil pass0 (pa_cons (pv 0) (pa_cons (pv 1) pa_nil)))) (pss_cons (ps_if (pt_not (pt_val (pe_callB call_isi (by rfl) T.z_isinstance (by decide +kernel) (pa_cons (pv 2) (pa_cons (pe_bltn (v := .ty "list") rfl T.z_list (by decide +kernel) rfl) pa_nil))))) (pss_one (ps_raise rfl (takes_of rfl rfl rfl rfl) (pmk_oex T.ox_InvalidWitness T.i_InvalidWitness T.ti_InvalidWitness (ok_InvalidWitness_init T) (hr.mono (by decide)) T.b_InvalidWitness_init .nil pass0 rfl T.m_InvalidWitness (pa_cons (pe_un un_neg pe_int) pa_nil)))) pss_nil) (pss_cons (CD.ps_setDcT (own := [("target", 8)]) (g := (gName 8)) (i := 3) (hu_of hr) rfl sc_plan_depths.nd rfl rfl (CD.sw_trueD rfl rfl rfl (by decide +kernel)) (pi_seq (pv 1)) (blkOk_by (N := N_plan_depths) (sc := defScope s_plan_depths) (by decide +kernel)) (fun _ _ _ _ _ => (pg_name (i := 8) sc_plan_depths.nd rfl (Or.inl rfl))) (fun _ _ _ _ _ => pts_nil) (fun _ _ _ _ _ => (pv 8)) (fun _ _ _ _ _ => pe_int)) (pss_cons (ps_set (i := 4) sc_plan_depths.nd rfl (Or.inl rfl) (pe_lst pa_nil)) (pss_cons (ps_for (passes_of rfl) rfl (CE.pi_e rfl T.z_enumerate (pa_cons (pv 2) pa_nil)) (pg_tup rfl (pgs_cons (pg_name (i := 5) sc_plan_depths.nd rfl (Or.inl rfl)) (pgs_cons (pg_name (i := 6) sc_plan_depths.nd rfl (Or.inl rfl)) pgs_nil))) (pss_cons (ps_set (i := 7) sc_plan_depths.nd rfl (Or.inl rfl) (pe_call (ok_entry_depth T) hr rfl T.m_entry_depth T.F_entry_depth.kp T.b_entry_depth .nil pass0 (pa_cons (pv 0) (pa_cons (pv 3) (pa_cons (pv 6) pa_nil))))) (pss_cons (ps_if (pt_cmpR op_isN (pv 7) pe_non (nomark _)) (pss_one (ps_raise rfl (takes_of rfl rfl rfl rfl) (pmk_oex T.ox_InvalidWitness T.i_InvalidWitness T.ti_InvalidWitness (ok_InvalidWitness_init T) (hr.mono (by decide)) T.b_InvalidWitness_init .nil pass0 rfl T.m_InvalidWitness (pa_cons (pv 5) pa_nil)))) pss_nil) (pss_cons (ps_dput (hu_of hr) (pv 3) (pe_ix ix_tup (pv 6) pe_int (fun _ _ => rfl)) (pv 7) (by rfl)) (pss_one (ps_expr (pe_bm PySem.F.plainAttrs_list PySem.F.slot_list_append PySem.F.type_list_append mt_append (pv 4) (pa_cons (pe_tup (pa_cons (pe_ix ix_tup (pv 6) pe_int (fun _ _ => rfl)) (pa_cons (pv 7) pa_nil))) pa_nil)))))))) (pss_one (ps_ret (pv 4))))))))), ?_⟩
    have l4 := ok.le
    have lx : gs.length = tss.length := Paired.length rr
    refine ⟨_, rfl, a, ns, rfl, tab, ?_⟩
    refine ⟨_, rfl, _, rfl, a, q, ns, tss, rfl, tab, l4, ⟨gs, hq, rr⟩, ne, by omega, sks, nod, fun H1 e1 => ?_⟩
    obtain ⟨ty, hty, hkit⟩ := (dq.mono e1).isL (K := K)
    refine ⟨_, rfl, _, _, _, _, _, rfl, .ty _, hty, hkit, _, rfl, ?_⟩
    cases el : lstD d with
    | none =>
      have e : planR ns tss d = .inl (-1) := by unfold planR; rw [el]
      refine itt rfl ?_
      refine ⟨_, rfl, by show 1 ≤ 1000; decide, fun ea na => ?_⟩
      exact exc_made na fun dd H4 e4 hd => kE (-1) e dd H4 (ext e1 e4) hd
    | some ds =>
    have e : planR ns tss d = goP ns tss ds [] := by unfold planR; rw [el]
    rw [e] at kE kQ
    clear e
    obtain ⟨dl, eT⟩ := pT ds el
    obtain ⟨l, xs, rfl, hl, _, all⟩ := dq.lstA el
    have lxs := all.len
    refine itf rfl ?_
    dsimp only [tNext]
    refine ⟨_, rfl, q, rfl, ⟨_, (hq.mono e1).sq⟩, fun D hD => ?_⟩
    refine CD.dcT_it (walk_seq (xs := gs)) (fun i Hx => Ex H1 Hx ∧ CntAt Hx D (atD 0 (tss.take i))) ⟨exn hD, upd_same⟩ (fun i Hx _ p => ((hq.mono e1).mono p.1).sq) ?_ ?_
    · rintro i x _ Hx hi ⟨ex, hc⟩ ⟨rfl, hx⟩
      obtain ⟨ts, r, hts, rfl, hr2⟩ := (rr.mono e1).get hx
      have hn : ts ∉ tss.take i := nodup_take nod hts
      refine ⟨rfl, _, rfl, _, entK ts, r, rfl, by rw [entK_kV]; exact ex _ _ hr2, hc, ?_, ex_upd ex hD, ?_⟩
      · rw [List.length_map, List.length_map, List.length_take]
        exact Nat.lt_of_le_of_lt (show _ ≤ 1000 by omega) (by decide)
      · show upd _ _ _ _ = _
        rw [upd_same, putK_new _ (by rw [val_ent, dep_none (by rw [keys_atD]; exact hn)]; rfl), take_more hts, atD_snoc, List.map_append]
        rfl
    rintro H2 ⟨e2, hD2⟩
    rw [List.take_of_length_le (by omega)] at hD2
    dsimp only [gName]
    have E2 := ext e1 e2
    have nD : H D = none := Evl.fresh_back e1 hD
    refine ⟨slen rfl, ?_⟩
    (intro f nf; generalize hGf : upd _ f _ = H3; have eH3 := exG hGf nf; have hf := atG hGf; clear hGf)
    dsimp only [gName]
    have E3 := ext E2 eH3
    have nf0 : H f = none := Evl.fresh_back E2 nf
    have nDf : D ≠ f := ne_of_none hD2 nf
    refine ⟨_, rfl, (false, l), rfl, ⟨_, sqL (E3 _ _ hl)⟩, ?_⟩
    refine for_it (CE.walk_e (xs := xs)) (fun i σ Hx => ∃ (y5 y6 y7 y8 : Option V) (ys : List V) (zs : List (List Int × Nat)), σ = [some (.ref a), some (.ref q.2), some (.ref l), some (.ref D), some (.ref f), y5, y6, y7, y8] ∧ Ex H Hx ∧ CntAt Hx D (atD 0 tss ++ zs) ∧ Hx f = some (.lst ys) ∧ Paired (PdS Hx) ys zs ∧ zs.length = i ∧ goP ns tss ds [] = goP ns tss (ds.drop i) zs) ⟨_, _, _, _, [], [], rfl, E3, by rw [List.append_nil]; exact hD2.mono eH3, hf, .nil, rfl, rfl⟩ (fun i σ Hx _ ⟨_, _, _, _, _, _, _, e, _⟩ => sqL (e _ _ hl)) ?_ ?_
    · rintro i x σ Hx Hy hi ⟨y5, y6, y7, y8, ys, zs, rfl, ex, hDx, hfx, py, lz, hgo⟩ ⟨Ta, x1, x2, rfl, hT, rfl, hx1, hx2⟩
      cases hx1
      obtain ⟨e, he, qe0⟩ := all.get hx2
      generalize hG : upd Hx Ta _ = Hz
      have ez := exG hG hT
      have hTa := atG hG
      clear hG
      have Ez := ext ex ez
      have qe := qe0.mono Ez
      have il := (List.getElem?_eq_some_iff.mp he).1
      have edr : ds.drop i = e :: ds.drop (i + 1) := by
        rw [List.drop_eq_getElem_cons il]
        rw [List.getElem?_eq_getElem il] at he
        rw [Option.some.inj he]
      rw [edr] at hgo
      replace hgo : goP ns tss ds [] = match entO ns (atD 0 tss ++ zs) e with
        | some z => goP ns tss (ds.drop (i + 1)) (zs ++ [z])
        | none => .inl (zs.length : Int) := hgo
      refine ⟨Ta, _, rfl, SqT.of hTa, rfl, _, _, rfl, _, _, rfl, rfl, ?_⟩
      refine ⟨_, rfl, _, rfl, _, rfl, B, a, D, x2, ns, _, e, rfl, tab.mono Ez, ok, hDx.mono ez, qe, eT e (List.mem_of_getElem? he), fun H5 e5 => ?_⟩
      have E5 := ext Ez e5
      have ez5 := ext ez e5
      dsimp only [gName]
      cases ho : entO ns (atD 0 tss ++ zs) e with
      | none =>
        rw [ho] at hgo
        refine ⟨_, rfl, rfl, _, rfl, itt rfl ?_⟩
        refine ⟨_, rfl, by show 1 ≤ 1000; decide, fun ea na => ?_⟩
        exact exc_made na fun dd H4 e4 hd => kE (zs.length : Int) hgo dd H4 (ext E5 e4) (by rw [lz]; exact hd)
      | some z =>
      rw [ho] at hgo
      obtain ⟨zp, zd⟩ := z
      obtain ⟨cs, rfl, sp, lc, hn, _⟩ := entO_some ho
      obtain ⟨r, xr, rfl, hre, hall⟩ := qe.tupA (ds := [iT zp, iT cs]) rfl
      obtain ⟨c, v2, rfl, hc⟩ : ∃ c v2, xr = [V.ref c, v2] ∧ Hz c = some (.tup (zp.map V.int)) := by
        cases hall with
        | cons q1 t1 =>
          cases t1 with
          | cons q2 t2 =>
            cases t2
            obtain ⟨c, xs, rfl, hc, hc2⟩ := q1.tupA (ds := zp.map PyData.int) rfl
            obtain ⟨is, a1, a2⟩ := dq_ints hc2 fun w hw => by
              obtain ⟨i, _, rfl⟩ := List.mem_map.mp hw
              exact ⟨i, rfl⟩
            have a3 : is = zp := by
              have := congrArg (List.filterMap intD) a1
              rw [fm_ints, fm_ints] at this
              exact this.symm
            subst a3
            subst a2
            exact ⟨c, _, rfl, hc⟩
      refine ⟨_, rfl, rfl, _, rfl, itf rfl ?_⟩
      dsimp only [tNext]
      have hD5 := hDx.mono ez5
      refine ⟨_, rfl, _, rfl, _, rfl, r, _, _, _, rfl, rfl, SqT.of (e5 _ _ hre), (L2.atI_nat (j := 0) rfl), D, _, rfl, DPut.t hD5 (by rw [entK_kV]; exact e5 _ _ hc) ?_, ?_⟩
      · rw [List.length_map, List.length_append, List.length_map]
        exact Nat.lt_of_le_of_lt (show _ ≤ 2000 by omega) (by decide)
      rw [putK_new _ (by rw [val_ent, hn]; rfl)]
      generalize hG6 : upd H5 D _ = H6
      have hD6 : CntAt H6 D (atD 0 tss ++ (zs ++ [(zp, zd)])) := by
        rw [← hG6]
        show upd _ _ _ _ = _
        rw [upd_same, ← List.append_assoc, List.map_append (l₂ := [(zp, zd)])]
        rfl
      have tp6 : ∀ c ws, H5 c = some (.tup ws) → H6 c = some (.tup ws) := fun c ws z => hG6 ▸ tup_dict hD5 z
      have hf6 : H6 f = some (.lst ys) := by
        rw [← hG6, upd_ne (Ne.symm nDf)]
        exact ez5 _ _ hfx
      have E6 : Ex H H6 := hG6 ▸ ex_upd E5 nD
      clear hG6
      dsimp only
      refine ⟨_, rfl, .inl ⟨rfl, _, SqL.of hf6⟩, _, rfl, r, _, _, _, rfl, rfl, SqT.of (tp6 _ _ (e5 _ _ hre)), (L2.atI_nat (j := 0) rfl), _, rfl, slen rfl, ?_⟩
      (intro tt ntt; generalize hGtt : upd _ tt _ = H7; have eH7 := exG hGtt ntt; have htt := atG hGtt; clear hGtt)
      have hf7 := eH7 _ _ hf6
      have lys : ys.length ≤ 1000 := by
        rw [Paired.length py]
        omega
      refine ⟨f, _, _, rfl, rfl, hf7, Nat.lt_of_le_of_lt lys (by decide), ?_⟩
      have tp8 : ∀ c ws, H7 c = some (.tup ws) → upd H7 f (.lst (ys ++ [.ref tt])) c = some (.tup ws) := fun c ws z => tup_pshL hf7 z
      refine ⟨_, _, _, _, ys ++ [.ref tt], zs ++ [(zp, zd)], rfl, ex_upd (ext E6 eH7) nf0, ?_, upd_same, ?_, by rw [List.length_append, lz]; rfl, hgo⟩
      · show upd _ _ _ _ = _
        rw [upd_ne nDf]
        exact eH7 _ _ hD6
      · exact paired_snoc ⟨tt, c, rfl, tp8 _ _ htt, tp8 _ _ (eH7 _ _ (tp6 _ _ (e5 _ _ hc)))⟩ (paired_mono (fun v b z => pds_mono _ _ v b (fun c ws z => tp8 _ _ (eH7 _ _ (tp6 _ _ (ez5 _ _ z)))) z) py)
    · rintro σ Hx ⟨y5, y6, y7, y8, ys, zs, rfl, ex, hDx, hfx, py, lz, hgo⟩
      rw [lxs, List.drop_length] at hgo
      exact ⟨_, rfl, kQ zs hgo f ys Hx ex nf0 hfx py⟩
def spX_check_plan (C CX : Addr) : Sp := fun vs H Q E => ∃ (B : Addr → Prop) (a : Addr) (q : Bool × Addr) (x : V) (ns : List Int) (tss : List (List Int)) (d : PyData), vs = [.ref a, .ref q.2, x] ∧ TabAt C H a ns ∧ SzOk ns ∧ RowsQ H q tss ∧ tss ≠ [] ∧ tss.length ≤ 1000 ∧ (∀ ts ∈ tss, SeatOk ns ts) ∧ tss.Nodup ∧ Dq B H x d ∧ PlanT d ∧
  (∀ i, planR ns tss d = .inl i → ∀ dd H2, Ex H H2 → H2 dd = some (.xd [("index", .int i)]) → E (.ref CX) (some dd) H2) ∧
  (∀ zs, planR ns tss d = .inr zs → ∀ H2, Ex H H2 → Q .non H2)
theorem okX_check_plan (T : TX K mg) : FnOk P w K mg base (L2.CX P w) 8 T.f_check_plan T.fd_check_plan ["table", "targets", "plan"] (spX_check_plan T.C_Table T.C_InvalidWitness) := by
  refine T.F_check_plan.okX sc_check_plan (fun vs H Q E h => ?_) (fun cdv A outer s H vs Q E hr h => ?_)
  · obtain ⟨B, a, q, x, ns, tss, d, rfl, _⟩ := h
    rfl
  · obtain ⟨B, a, q, x, ns, tss, d, rfl, tab, ok, rq, ne, lt, sks, nod, dq, pT, kE, kQ⟩ := h
    refine ⟨_, (pss_one (ps_expr (pe_call (okX_plan_depths T) hr rfl T.m_plan_depths T.F_plan_depths.kp T.b_plan_depths .nil (passes_call (takes_of rfl rfl rfl rfl) (fun _ _ _ _ h => h)) (pa_cons (pv 0) (pa_cons (pv 1) (pa_cons (pv 2) pa_nil)))))), ?_⟩
    exact ⟨_, rfl, _, rfl, _, rfl, B, a, q, x, ns, tss, d, rfl, tab, ok, rq, ne, lt, sks, nod, dq, pT, kE, fun zs h f ys H2 e2 _ _ _ => kQ zs h H2 e2⟩
end

theorem yvi2 {xs : List V} {ys : List Int} {i : Nat} {H H2 : Hp} {x : V} (h : CZ.YRow [xs, ys.map V.int] i H x H2) : ∃ (Ta : Addr) (v : V) (b : Int), x = .ref Ta ∧ H Ta = none ∧ H2 = upd H Ta (.tup [v, .int b]) ∧ xs[i]? = some v ∧ ys[i]? = some b := by
  obtain ⟨Ta, a, b, rfl, hT, rfl, r1, r2⟩ := yrow2 h
  obtain ⟨q, hq, rfl⟩ := map_get r2
  exact ⟨Ta, a, q, rfl, hT, rfl, r1, hq⟩

section
variable {P : Program} {w : World} {K : PySem.W.Frag} {mg : Str → Option Value} {base : Heap}
def sp_law_is_spot : Sp := fun vs H Q _ => ∃ (B : Addr → Prop) (l : Addr) (x : V) (ns : List Int) (d : PyData), vs = [.ref l, x] ∧ H l = some (.lst (ns.map V.int)) ∧ ns.length ≤ 4 ∧ Dq B H x d ∧ ∀ H2, Ex H H2 → Q (.bl (isSeatO ns (oT d))) H2
theorem ok_law_is_spot (T : TX K mg) : FnOk P w K mg base CX0 1 T.f_law_is_spot T.fd_law_is_spot ["_law_rings_here", "_law_thing"] sp_law_is_spot := by
  refine T.F_law_is_spot.ok sc_law_is_spot (fun vs H Q E h => ?_) (fun cdv A outer s H vs Q E hr h => ?_)
  · obtain ⟨B, l, x, ns, d, rfl, _⟩ := h
    rfl
  · obtain ⟨B, l, x, ns, d, rfl, hl, l4, dq, k⟩ := h
    refine ⟨_, (pss_cons (ps_if (PW.pt (pw_or (pt_not (pt_val (pe_callB call_isi (by rfl) T.z_isinstance (by decide +kernel) (pa_cons (pv 1) (pa_cons (pe_bltn (v := .ty "tuple") rfl T.z_tuple (by decide +kernel) rfl) pa_nil))))) (pw_or1 (pt_cmpR op_ne (pe_callB call_len_seq (by rfl) T.z_len (by decide +kernel) (pa_cons (pv 1) pa_nil)) (pe_callB call_len_seq (by rfl) T.z_len (by decide +kernel) (pa_cons (pv 0) pa_nil)) (nomark _))))) (pss_one (ps_ret pe_bl)) pss_nil) (pss_cons (ps_for PassesOwn.never rfl (CZ.pi_z2 (fl := [true, false]) rfl (by rfl) T.z_zip (pa_cons (pv 1) (pa_cons (pv 0) pa_nil))) (pg_tup rfl (pgs_cons (pg_name (i := 2) sc_law_is_spot.nd rfl (Or.inl rfl)) (pgs_cons (pg_name (i := 3) sc_law_is_spot.nd rfl (Or.inl rfl)) pgs_nil))) (pss_one (ps_if (PW.pt (pw_or (pt_not (pt_val (pe_callB call_isi (by rfl) T.z_isinstance (by decide +kernel) (pa_cons (pv 2) (pa_cons (pe_bltn (v := .ty "int") rfl T.z_int (by decide +kernel) rfl) pa_nil))))) (pw_or (pt_val (pe_callB call_isi (by rfl) T.z_isinstance (by decide +kernel) (pa_cons (pv 2) (pa_cons (pe_bltn (v := .ty "bool") rfl T.z_bool (by decide +kernel) rfl) pa_nil)))) (pw_or1 (pt_not (pt_chain op_le op_lt pe_int (pv 2) (pv 3))))))) (pss_one (ps_ret pe_bl)) pss_nil))) (pss_one (ps_ret pe_bl)))), ?_⟩
    obtain ⟨ty, hty, hkit⟩ := dq.isT (K := K)
    refine ⟨_, rfl, _, _, _, _, _, rfl, .ty _, hty, hkit, _, rfl, ?_⟩
    cases et : tupD d with
    | none =>
      refine itt rfl ?_
      have e : isSeatO ns (oT d) = false := by unfold oT; rw [et]; rfl
      rw [e] at k
      exact k _ exr
    | some es =>
    refine itf rfl ?_
    obtain ⟨r, xs, rfl, hre, all⟩ := dq.tupA et
    have lxs := all.len
    have eS : isSeatO ns (oT d) = (decide ((es.map intD).length = ns.length) && (List.zipWith (fun o n => between o 0 (n - 1)) (es.map intD) ns).all id) := by unfold oT; rw [et]; rfl
    rw [eS, List.length_map] at k
    clear eS
    refine ⟨_, rfl, r, _, rfl, .inr (SqT.of hre), _, rfl, l, _, rfl, .inl (SqL.of hl), rfl, _, rfl, ?_⟩
    by_cases c : es.length = ns.length
    rotate_left
    · refine itt (by rw [lxs, List.length_map]; simp; omega) ?_
      rw [decide_eq_false c] at k
      exact k _ exr
    refine itf (by rw [lxs, List.length_map, c]; simp) ?_
    rw [decide_eq_true c, Bool.true_and] at k
    dsimp only [tNext]
    refine ⟨_, rfl, _, rfl, [r, l], rfl, rfl, all2 (sqT hre) (sqL hl), ?_⟩
    refine for_it (CZ.walk_rows (xss := [xs, ns.map V.int]) (n := ns.length) (lens2 (by rw [lxs, c]) (by rw [List.length_map]))) (fun i σ Hx => (∃ y2 y3 : Option V, σ = [some (.ref l), some (.ref r), y2, y3]) ∧ Ex H Hx ∧ (List.zipWith (fun o n => between o 0 (n - 1)) (es.map intD) ns).all id = (List.zipWith (fun o n => between o 0 (n - 1)) ((es.drop i).map intD) (ns.drop i)).all id) ⟨⟨_, _, rfl⟩, exr, rfl⟩ (fun i σ Hx _ p => .cons (sqT (p.2.1 _ _ hre)) (.cons (sqL (p.2.1 _ _ hl)) .nil)) ?_ ?_
    · rintro i x σ Ha Hb hi ⟨⟨y2, y3, rfl⟩, ex, hd⟩ yy
      obtain ⟨Ta, v, n, rfl, hT, rfl, hv, hn⟩ := yvi2 yy
      obtain ⟨e, he, qe0⟩ := all.get hv
      have E3 := ext ex (exn (o := .tup [v, .int n]) hT)
      have qe := qe0.mono E3
      have il := (List.getElem?_eq_some_iff.mp he).1
      have jl := (List.getElem?_eq_some_iff.mp hn).1
      have e1 : es.drop i = e :: es.drop (i + 1) := by
        rw [List.drop_eq_getElem_cons il]
        rw [List.getElem?_eq_getElem il] at he
        rw [Option.some.inj he]
      have e2 : ns.drop i = n :: ns.drop (i + 1) := by
        rw [List.drop_eq_getElem_cons jl]
        rw [List.getElem?_eq_getElem jl] at hn
        rw [Option.some.inj hn]
      rw [e1, e2, List.map_cons, List.zipWith_cons_cons, List.all_cons] at hd
      replace hd : _ = (between (intD e) 0 (n - 1) && (List.zipWith (fun o n => between o 0 (n - 1)) ((es.drop (i + 1)).map intD) (ns.drop (i + 1))).all id) := hd
      refine ⟨Ta, _, rfl, SqT.of upd_same, rfl, _, _, rfl, _, _, rfl, rfl, ?_⟩
      have bad : between (intD e) 0 (n - 1) = false → Q (.bl false) (upd Ha Ta (.tup [v, .int n])) := fun z => by
        rw [hd, z] at k
        exact k _ E3
      obtain ⟨t, bi, bb, tx, ki, kb, b1, b2⟩ := qe.isIB (K := K)
      refine ⟨_, rfl, _, _, _, _, _, rfl, .ty _, tx, ki, _, rfl, ?_⟩
      cases bi with
      | false => exact itt rfl (bad (by rw [b2 rfl]; rfl))
      | true =>
      refine itf rfl ?_
      refine ⟨_, rfl, _, _, _, _, _, rfl, .ty _, tx, kb, _, rfl, ?_⟩
      cases bb with
      | true =>
        refine itt rfl (bad ?_)
        cases h : intD e with
        | none => rfl
        | some j => rw [h] at b1; cases b1
      | false =>
      refine itf rfl ?_
      obtain ⟨z, rfl, rfl⟩ : ∃ z : Int, e = .int z ∧ v = .int z := by
        cases qe with
        | int z => exact ⟨z, rfl, rfl⟩
        | _ => cases b1
      refine ⟨_, rfl, _, _, rfl, rfl, _, rfl, ?_⟩
      by_cases z0 : 0 ≤ z
      rotate_left
      · refine itf (decide_eq_false z0) ?_
        refine ⟨_, rfl, itt rfl (bad ?_)⟩
        show (decide (0 ≤ z) && decide (z ≤ n - 1)) = false
        rw [decide_eq_false z0]
        rfl
      refine itt (decide_eq_true z0) ?_
      dsimp only
      refine ⟨_, rfl, _, _, rfl, rfl, _, rfl, ?_⟩
      by_cases z1 : z < n
      · refine itf (by rw [decide_eq_true z1]; rfl) ⟨⟨_, _, rfl⟩, E3, ?_⟩
        rw [hd]
        show ((decide (0 ≤ z) && decide (z ≤ n - 1)) && _) = _
        rw [decide_eq_true z0, decide_eq_true (by omega)]
        rfl
      · refine itt (by rw [decide_eq_false z1]; rfl) (bad ?_)
        show (decide (0 ≤ z) && decide (z ≤ n - 1)) = false
        rw [decide_eq_true z0, decide_eq_false (by omega)]
        rfl
    · rintro σ Hx ⟨⟨y2, y3, rfl⟩, ex, hd⟩
      rw [← c, List.drop_length] at hd
      rw [hd] at k
      exact k _ ex
end

/-- the entries of a tuple can be compared -/
def PartS (d : PyData) : Prop := ∀ es, tupD d = some es → ∀ e ∈ es, Sh 50 e
theorem dq_filt {B : Addr → Prop} {H : Hp} (c : PyData → Bool) : ∀ {xs : List V} {es : List PyData}, DqAll B H xs es → DqAll B H (((xs.zip es).filter fun z => c z.2).map (·.1)) (es.filter c)
  | _, _, .nil => .nil
  | _, _, .cons (d := d) q t => by
    rw [List.zip_cons_cons, List.filter_cons, List.filter_cons]
    cases h : c d with
    | true =>
      rw [if_pos rfl, if_pos rfl, List.map_cons]
      exact .cons q (dq_filt c t)
    | false =>
      rw [if_neg (by simp), if_neg (by simp)]
      exact dq_filt c t
theorem eqv_nil (ds : List PyData) : PyData.eqv (.list ds) (.list []) = decide (ds = []) := by
  cases ds with
  | nil => simp [PyData.eqv, PyData.eqvAll]
  | cons d ds => simp [PyData.eqv, PyData.eqvAll]
section
variable {P : Program} {w : World} {K : PySem.W.Frag} {mg : Str → Option Value} {base : Heap}
def sp_law_is_call : Sp := fun vs H Q _ => ∃ (B : Addr → Prop) (l : Addr) (x : V) (ns : List Int) (d : PyData), vs = [.ref l, x] ∧ H l = some (.lst (ns.map V.int)) ∧ ns.length ≤ 4 ∧ Dq B H x d ∧ PartS d ∧ ∀ H2, Ex H H2 → Q (.bl (isCallO ns (oT d))) H2
theorem ok_law_is_call (T : TX K mg) : FnOk P w K mg base CX0 1 T.f_law_is_call T.fd_law_is_call ["_law_rings_here", "_law_thing"] sp_law_is_call := by
  refine T.F_law_is_call.ok sc_law_is_call (fun vs H Q E h => ?_) (fun cdv A outer s H vs Q E hr h => ?_)
  · obtain ⟨B, l, x, ns, d, rfl, _⟩ := h
    rfl
  · obtain ⟨B, l, x, ns, d, rfl, hl, l4, dq, ps, k⟩ := h
    refine ⟨_, (pss_cons (ps_if (PW.pt (pw_or (pt_not (pt_val (pe_callB call_isi (by rfl) T.z_isinstance (by decide +kernel) (pa_cons (pv 1) (pa_cons (pe_bltn (v := .ty "tuple") rfl T.z_tuple (by decide +kernel) rfl) pa_nil))))) (pw_or1 (pt_cmpR op_ne (pe_callB call_len_seq (by rfl) T.z_len (by decide +kernel) (pa_cons (pv 1) pa_nil)) (pe_callB call_len_seq (by rfl) T.z_len (by decide +kernel) (pa_cons (pv 0) pa_nil)) (nomark _))))) (pss_one (ps_ret pe_bl)) pss_nil) (pss_one (ps_ret (pe_cmpR (r := rEqD K) (op_eqD hr.units) (pe_lc (own := [("_law_one", 2)]) (g := (gName 2)) rfl sc_law_is_call.nd (pi_tup (pv 1)) (blkOk_by (N := N_law_is_call) (sc := defScope s_law_is_call) (by decide +kernel)) (fun _ _ _ _ _ => (pg_name (i := 2) sc_law_is_call.nd rfl (Or.inl rfl))) (fun _ _ _ _ _ => (pts_one (PW.pt (pw_or (pt_not (pt_val (pe_callB (r := rIsi K) call_isi (by rfl) T.z_isinstance (by decide +kernel) (pa_cons (pv 2) (pa_cons (pe_bltn (v := .ty "int") rfl T.z_int (by decide +kernel) rfl) pa_nil))))) (pw_or1 (pt_val (pe_callB (r := rIsi K) call_isi (by rfl) T.z_isinstance (by decide +kernel) (pa_cons (pv 2) (pa_cons (pe_bltn (v := .ty "bool") rfl T.z_bool (by decide +kernel) rfl) pa_nil))))))))) (fun _ _ _ _ _ => (pv 2))) (pe_lst pa_nil) (nomark _))))), ?_⟩
    obtain ⟨ty, hty, hkit⟩ := dq.isT (K := K)
    refine ⟨_, rfl, _, _, _, _, _, rfl, .ty _, hty, hkit, _, rfl, ?_⟩
    cases et : tupD d with
    | none =>
      refine itt rfl ?_
      have e : isCallO ns (oT d) = false := by unfold oT; rw [et]; rfl
      rw [e] at k
      exact k _ exr
    | some es =>
    refine itf rfl ?_
    obtain ⟨r, xs, rfl, hre, all⟩ := dq.tupA et
    have lxs := all.len
    have eS : isCallO ns (oT d) = (decide ((es.map intD).length = ns.length) && ((es.map intD).map Option.isSome).all id) := by unfold oT; rw [et]; rfl
    rw [eS, List.length_map] at k
    clear eS
    refine ⟨_, rfl, r, _, rfl, .inr (SqT.of hre), _, rfl, l, _, rfl, .inl (SqL.of hl), rfl, _, rfl, ?_⟩
    by_cases c : es.length = ns.length
    rotate_left
    · refine itt (by rw [lxs, List.length_map]; simp; omega) ?_
      rw [decide_eq_false c] at k
      exact k _ exr
    refine itf (by rw [lxs, List.length_map, c]; simp) ?_
    rw [decide_eq_true c, Bool.true_and] at k
    dsimp only [tNext]
    refine ⟨_, rfl, r, rfl, ⟨_, SqT.of hre⟩, fun D hD => ?_⟩
    refine lc_filt (walk_tup (xs := xs)) (xs.zip es) (fun z => (intD z.2).isNone) (fun z => z.1) (by rw [List.length_zip, lxs, Nat.min_self]) (by omega) hD (fun Hw ew => SqT.of (ew _ _ hre)) ?_ ?_
    · rintro j v ⟨v2, e⟩ Hw H2 R S ha ew ⟨rfl, hv⟩ kR kS
      rw [List.getElem?_zip_eq_some] at ha
      obtain rfl : v = v2 := Option.some.inj (hv.symm.trans ha.1)
      obtain ⟨e', he', qe0⟩ := all.get hv
      obtain rfl : e' = e := Option.some.inj (he'.symm.trans ha.2)
      have qe := qe0.mono ew
      obtain ⟨t, bi, bb, tx, ki, kb, b1, b2⟩ := qe.isIB (K := K)
      refine ⟨rfl, ?_⟩
      refine ⟨_, rfl, _, _, _, _, _, rfl, .ty _, tx, ki, _, rfl, ?_⟩
      cases bi with
      | false => exact itt rfl ⟨_, rfl, kR _ _ exr (by rw [b2 rfl]; rfl) rfl⟩
      | true =>
      refine itf rfl ?_
      refine ⟨_, rfl, _, _, _, _, _, rfl, .ty _, tx, kb, _, rfl, ?_⟩
      cases bb with
      | true =>
        have z : intD e' = none := by
          cases h : intD e' with
          | none => rfl
          | some j => rw [h] at b1; cases b1
        exact (if_pos rfl).mpr ⟨_, rfl, kR _ _ exr (by rw [z]; rfl) rfl⟩
      | false => exact kS _ exr (by cases h : intD e' with | none => rw [h] at b1; cases b1 | some j => rfl)
    · intro H5 e5 hD5
      refine ⟨slen rfl, ?_⟩
      (intro nl nnl; generalize hGnl : upd _ nl _ = H6; have eH6 := exG hGnl nnl; have hnl := atG hGnl; clear hGnl)
      have fl := ((dq_filt (fun e => (intD e).isNone) all).mono (ext e5 eH6)).dp (K := K)
      have shA : SeqAt.shaped (.list (es.filter fun e => (intD e).isNone)) = true := (sh_list (n := 59) (ds := es.filter fun e => (intD e).isNone) fun e he => ⟨((ps es et e (List.mem_filter.mp he).1)).1, Nat.le_trans ((ps es et e (List.mem_filter.mp he).1)).2 (by decide)⟩).ok
      refine ⟨_, _, .lst (SqL.of (eH6 _ _ hD5)) fl, .lst (SqL.of hnl) .nil, shA, (sh_list (n := 59) (ds := []) fun e he => by cases he).ok, ?_⟩
      rw [eqv_nil]
      have e : decide ((es.filter fun e => (intD e).isNone) = []) = ((es.map intD).map Option.isSome).all id := by
        rw [Bool.eq_iff_iff, decide_eq_true_iff, List.all_map, List.all_map, List.all_eq_true, List.filter_eq_nil_iff]
        refine forall_congr' fun a => forall_congr' fun _ => ?_
        show ¬(intD a).isNone = true ↔ (intD a).isSome = true
        cases intD a <;> simp
      rw [e]
      exact k _ (ext e5 eH6)
end

def PdZ (H : Hp) (x : V) (p : List Int) : Prop := PrT H x (entV (p, 0))
theorem pdz_mono (H H2 : Hp) (v : V) (a : List Int) (e : ∀ c xs, H c = some (.tup xs) → H2 c = some (.tup xs)) (h : PdZ H v a) : PdZ H2 v a := by
  obtain ⟨p, b, h1, h2, h3⟩ := h
  exact ⟨p, b, h1, e _ _ h2, e _ _ h3⟩
theorem pdz_pairs {H : Hp} : ∀ {xs : List V} {ps : List (List Int)}, Paired (PdZ H) xs ps → Paired (PrT H) xs ((atD 0 ps).map entV)
  | _, _, .nil => .nil
  | _, _, .cons q t => .cons q (pdz_pairs t)

theorem dep_last {fs : List (List Int × Nat)} {p : List Int} {d : Nat} (h : dep fs p = none) : dep (fs ++ [(p, d)]) p = some d := by
  unfold dep at h ⊢
  rw [List.find?_append, Option.map_or]
  rw [h]
  simp
theorem Dq.intsT {B : Addr → Prop} {H : Hp} {v : V} {ps : List Int} (q : Dq B H v (iT ps)) : ∃ c, v = .ref c ∧ H c = some (.tup (ps.map V.int)) := by
  obtain ⟨c, xs, rfl, hc, hall⟩ := q.tupA (ds := ps.map PyData.int) rfl
  obtain ⟨is, a1, a2⟩ := dq_ints hall fun w hw => by
    obtain ⟨i, _, rfl⟩ := List.mem_map.mp hw
    exact ⟨i, rfl⟩
  have a3 : is = ps := by
    have := congrArg (List.filterMap intD) a1
    rw [fm_ints, fm_ints] at this
    exact this.symm
  subst a3
  subst a2
  exact ⟨c, rfl, hc⟩
section
variable {P : Program} {w : World} {K : PySem.W.Frag} {mg : Str → Option Value} {base : Heap}
def sp_law_due : Sp := fun vs H Q _ => ∃ (B : Addr → Prop) (l g : Addr) (x : V) (ns : List Int) (tss : List (List Int)) (d : PyData), vs = [.ref l, .ref g, x] ∧ H l = some (.lst (ns.map V.int)) ∧ SzOk ns ∧ RowsAt H g tss ∧ tss.length ≤ 1000 ∧ (∀ ts ∈ tss, SeatOk ns ts) ∧ tss.Nodup ∧ Dq B H x d ∧ PlanT d ∧ (∀ ds, lstD d = some ds → ∀ e ∈ ds, ∀ es, tupD e = some es → ∀ b ∈ es, PartS b) ∧
  (∀ i, planR ns tss d = .inl i → ∀ H2, Ex H H2 → Q (.int i) H2) ∧
  (∀ zs, planR ns tss d = .inr zs → ∀ (f : Addr) (ys : List V) H2, Ex H H2 → H f = none → H2 f = some (.lst ys) → Paired (PdS H2) ys zs → Q (.ref f) H2)
theorem ok_law_due (T : TX K mg) : FnOk P w K mg base CX0 2 T.f_law_due T.fd_law_due ["_law_rings_here", "_law_goals_here", "_law_entries"] sp_law_due := by
  refine T.F_law_due.ok sc_law_due (fun vs H Q E h => ?_) (fun cdv A outer s H vs Q E hr h => ?_)
  · obtain ⟨B, l, g, x, ns, tss, d, rfl, _⟩ := h
    rfl
  · obtain ⟨B, l, g, x, ns, tss, d, rfl, hl, ok, rg, lt, sks, nod, dq, pT, pS, kE, kQ⟩ := h
    refine ⟨_, (pss_cons (ps_if (pt_not (pt_val (pe_callB call_isi (by rfl) T.z_isinstance (by decide +kernel) (pa_cons (pv 2) (pa_cons (pe_bltn (v := .ty "list") rfl T.z_list (by decide +kernel) rfl) pa_nil))))) (pss_one (ps_ret (pe_un un_neg pe_int))) pss_nil) (pss_cons (ps_set (i := 3) sc_law_due.nd rfl (Or.inl rfl) (pe_callTy (CD.call_dictT rfl (u65 hr)) (by rfl) T.z_dict (by decide +kernel) (pa_cons (pe_lc (own := [("_law_goal", 8)]) (g := (gName 8)) rfl sc_law_due.nd (pi_list (pv 1)) (blkOk_by (N := N_law_due) (sc := defScope s_law_due) (by decide +kernel)) (fun _ _ _ _ _ => (pg_name (i := 8) sc_law_due.nd rfl (Or.inl rfl))) (fun _ _ _ _ _ => pts_nil) (fun _ _ _ _ _ => (pe_tup (pa_cons (pv 8) (pa_cons pe_int pa_nil))))) pa_nil))) (pss_cons (ps_set (i := 4) sc_law_due.nd rfl (Or.inl rfl) (pe_lst pa_nil)) (pss_cons (ps_for PassesOwn.never rfl (CE.pi_e rfl T.z_enumerate (pa_cons (pv 2) pa_nil)) (pg_tup rfl (pgs_cons (pg_name (i := 5) sc_law_due.nd rfl (Or.inl rfl)) (pgs_cons (pg_name (i := 6) sc_law_due.nd rfl (Or.inl rfl)) pgs_nil))) (pss_cons (ps_if (PW.pt (pw_or (pt_not (pt_val (pe_callB call_isi (by rfl) T.z_isinstance (by decide +kernel) (pa_cons (pv 6) (pa_cons (pe_bltn (v := .ty "tuple") rfl T.z_tuple (by decide +kernel) rfl) pa_nil))))) (pw_or1 (pt_cmpR op_ne (pe_callB call_len_seq (by rfl) T.z_len (by decide +kernel) (pa_cons (pv 6) pa_nil)) pe_int (nomark _))))) (pss_one (ps_ret (pv 5))) pss_nil) (pss_cons (ps_if (PW.pt (pw_or (pt_not (pt_val (pe_call (ok_law_is_spot T) hr rfl T.m_law_is_spot T.F_law_is_spot.kp T.b_law_is_spot .nil pass0 (pa_cons (pv 0) (pa_cons (pe_ix ix_tup (pv 6) pe_int (fun _ _ => rfl)) pa_nil))))) (pw_or (pt_not (pt_val (pe_call (ok_law_is_call T) hr rfl T.m_law_is_call T.F_law_is_call.kp T.b_law_is_call .nil pass0 (pa_cons (pv 0) (pa_cons (pe_ix ix_tup (pv 6) pe_int (fun _ _ => rfl)) pa_nil))))) (pw_or1 (pt_cmp (pc_din (hu_of hr) (pe_ix ix_tup (pv 6) pe_int (fun _ _ => rfl)) (pv 3))))))) (pss_one (ps_ret (pv 5))) pss_nil) (pss_cons (ps_set (i := 7) sc_law_due.nd rfl (Or.inl rfl) (pe_call (ok_law_both T) hr rfl T.m_law_both T.F_law_both.kp T.b_law_both .nil pass0 (pa_cons (pv 0) (pa_cons (pe_ix ix_tup (pv 6) pe_int (fun _ _ => rfl)) (pa_cons (pe_ix ix_tup (pv 6) pe_int (fun _ _ => rfl)) pa_nil))))) (pss_cons (ps_if (PW.pt (pw_or (pt_cmp (pc_dnotin (hu_of hr) (pe_ix ix_tup (pv 7) pe_int (fun _ _ => rfl)) (pv 3))) (pw_or1 (pt_cmp (pc_dnotin (hu_of hr) (pe_ix ix_tup (pv 7) pe_int (fun _ _ => rfl)) (pv 3)))))) (pss_one (ps_ret (pv 5))) pss_nil) (pss_cons (ps_dput (hu_of hr) (pv 3) (pe_ix ix_tup (pv 6) pe_int (fun _ _ => rfl)) (pe_op op_add pe_int (pe_callB (call_max2 rfl) (by rfl) T.z_max (by decide +kernel) (pa_cons (pe_dget (hu_of hr) (pv 3) (pe_ix ix_tup (pv 7) pe_int (fun _ _ => rfl)) (fun _ _ => rfl)) (pa_cons (pe_dget (hu_of hr) (pv 3) (pe_ix ix_tup (pv 7) pe_int (fun _ _ => rfl)) (fun _ _ => rfl)) pa_nil)))) (by rfl)) (pss_one (ps_expr (pe_bm PySem.F.plainAttrs_list PySem.F.slot_list_append PySem.F.type_list_append mt_append (pv 4) (pa_cons (pe_tup (pa_cons (pe_ix ix_tup (pv 6) pe_int (fun _ _ => rfl)) (pa_cons (pe_dget (hu_of hr) (pv 3) (pe_ix ix_tup (pv 6) pe_int (fun _ _ => rfl)) (fun _ _ => rfl)) pa_nil))) pa_nil)))))))))) (pss_one (ps_ret (pv 4))))))), ?_⟩
    obtain ⟨ty, hty, hkit⟩ := dq.isL (K := K)
    refine ⟨_, rfl, _, _, _, _, _, rfl, .ty _, hty, hkit, _, rfl, ?_⟩
    cases el : lstD d with
    | none =>
      have e : planR ns tss d = .inl (-1) := by unfold planR; rw [el]
      refine itt rfl ?_
      exact ⟨_, rfl, kE (-1) e _ exr⟩
    | some ds =>
    have e : planR ns tss d = goP ns tss ds [] := by unfold planR; rw [el]
    rw [e] at kE kQ
    clear e
    obtain ⟨dl, eT⟩ := pT ds el
    have pS2 := pS ds el
    obtain ⟨lx, xs, rfl, hlx, _, all⟩ := dq.lstA el
    have lxs := all.len
    refine itf rfl ?_
    dsimp only [tNext]
    have l4 := ok.le
    obtain ⟨gs, hg1, hg2⟩ := id rg
    have lgs : gs.length = tss.length := Paired.length hg2
    refine ⟨_, rfl, g, rfl, ⟨_, SqL.of hg1⟩, fun D0 hD0 => ?_⟩
    refine lc_new PdZ pdz_mono (walk_list (xs := gs)) tss (by omega) (by omega) hD0 (fun Hx ex => SqL.of (ex _ _ hg1)) ?_ gmono_name ?_
    · rintro i x p Hx _ R hp ex ⟨rfl, hx⟩ kk
      obtain ⟨q, r, hq, rfl, hr⟩ := hg2.get hx
      obtain rfl : q = p := Option.some.inj (hq.symm.trans hp)
      refine ⟨rfl, _, rfl, slen rfl, ?_⟩
      (intro tp ntp; generalize hGtp : upd _ tp _ = H5; have eH5 := exG hGtp ntp; have htp := atG hGtp; clear hGtp)
      exact kk _ _ eH5 ⟨tp, r, rfl, htp, by rw [entK_kV]; exact eH5 _ _ (ex _ _ hr)⟩
    intro H1 zs e1 hz1 pz
    refine ⟨D0, zs, _, rfl, SqL.of hz1, pdz_pairs pz, fun D hD => ?_⟩
    rw [show CD.mergeT [] ((atD 0 tss).map entV) = (atD 0 tss).map entV from merge_new (fs := []) (fun p _ h => nomatch h) nod]
    generalize hG2 : upd H1 D _ = H2
    have e2 := exG hG2 hD
    have hc2 : CntAt H2 D (atD 0 tss) := atG hG2
    clear hG2
    have E2 := ext e1 e2
    have nD : H D = none := Evl.fresh_back e1 hD
    dsimp only [gName]
    refine ⟨slen rfl, ?_⟩
    (intro f nf; generalize hGf : upd _ f _ = H3; have eH3 := exG hGf nf; have hf := atG hGf; clear hGf)
    dsimp only [gName]
    have E3 := ext E2 eH3
    have nf0 : H f = none := Evl.fresh_back E2 nf
    have nDf : D ≠ f := ne_of_none hc2 nf
    refine ⟨_, rfl, (false, lx), rfl, ⟨_, sqL (E3 _ _ hlx)⟩, ?_⟩
    refine for_it (CE.walk_e (xs := xs)) (fun i σ Hx => ∃ (y5 y6 y7 y8 : Option V) (ys : List V) (zs : List (List Int × Nat)), σ = [some (.ref l), some (.ref g), some (.ref lx), some (.ref D), some (.ref f), y5, y6, y7, y8] ∧ Ex H Hx ∧ CntAt Hx D (atD 0 tss ++ zs) ∧ Hx f = some (.lst ys) ∧ Paired (PdS Hx) ys zs ∧ zs.length = i ∧ goP ns tss ds [] = goP ns tss (ds.drop i) zs) ⟨_, _, _, _, [], [], rfl, E3, by rw [List.append_nil]; exact hc2.mono eH3, hf, .nil, rfl, rfl⟩ (fun i σ Hx _ ⟨_, _, _, _, _, _, _, e, _⟩ => sqL (e _ _ hlx)) ?_ ?_
    · rintro i x σ Hx Hy hi ⟨y5, y6, y7, y8, ys, zs, rfl, ex, hDx, hfx, py, lz, hgo⟩ ⟨Ta, x1, x2, rfl, hT, rfl, hx1, hx2⟩
      cases hx1
      obtain ⟨e, he, qe0⟩ := all.get hx2
      generalize hG : upd Hx Ta _ = Hz
      have ez := exG hG hT
      have hTa := atG hG
      clear hG
      have Ez := ext ex ez
      have qe := qe0.mono Ez
      have il := (List.getElem?_eq_some_iff.mp he).1
      have edr : ds.drop i = e :: ds.drop (i + 1) := by
        rw [List.drop_eq_getElem_cons il]
        rw [List.getElem?_eq_getElem il] at he
        rw [Option.some.inj he]
      rw [edr] at hgo
      replace hgo : goP ns tss ds [] = match entO ns (atD 0 tss ++ zs) e with
        | some z => goP ns tss (ds.drop (i + 1)) (zs ++ [z])
        | none => .inl (zs.length : Int) := hgo
      have memE := List.mem_of_getElem? he
      have bad : entO ns (atD 0 tss ++ zs) e = none → ∀ H4, Ex Hz H4 → Q (.int (i : Int)) H4 := fun z H4 e4 => by
        rw [z] at hgo
        rw [← lz]
        exact kE _ hgo _ (ext Ez e4)
      refine ⟨Ta, _, rfl, SqT.of hTa, rfl, _, _, rfl, _, _, rfl, rfl, ?_⟩
      obtain ⟨t2, ht2, hk2⟩ := qe.isT (K := K)
      refine ⟨_, rfl, _, _, _, _, _, rfl, .ty _, ht2, hk2, _, rfl, ?_⟩
      cases et : tupD e with
      | none =>
        refine itt rfl ?_
        exact ⟨_, rfl, bad (by unfold entO; rw [et]) _ exr⟩
      | some es =>
      refine itf rfl ?_
      obtain ⟨r, xr, rfl, hre, hall⟩ := qe.tupA et
      have lxr := hall.len
      refine ⟨_, rfl, r, _, rfl, .inr (SqT.of hre), rfl, _, rfl, ?_⟩
      by_cases c2 : es.length = 2
      rotate_left
      · refine itt (by rw [lxr]; simp; omega) ?_
        refine ⟨_, rfl, bad ?_ _ exr⟩
        unfold entO
        rw [et]
        match es, c2 with
        | [], _ => rfl
        | [_], _ => rfl
        | [_, _], z => exact absurd rfl z
        | _ :: _ :: _ :: _, _ => rfl
      refine itf (by rw [lxr, c2]; simp) ?_
      obtain ⟨da, db, rfl⟩ : ∃ ds dc, es = [ds, dc] := by
        match es, c2 with
        | [a, b], _ => exact ⟨a, b, rfl⟩
      obtain ⟨v1, v2, rfl⟩ : ∃ v1 v2, xr = [v1, v2] := by
        match xr, lxr with
        | [a, b], _ => exact ⟨a, b, rfl⟩
      obtain ⟨q1, q2⟩ : Dq B Hz v1 da ∧ Dq B Hz v2 db := by
        cases hall with
        | cons a b => cases b with
          | cons c d => exact ⟨a, c⟩
      have eo : entO ns (atD 0 tss ++ zs) e = entD ns (atD 0 tss ++ zs) da db := by unfold entO; rw [et]
      rw [eo] at bad hgo
      dsimp only [tNext]
      refine ⟨_, rfl, _, rfl, r, _, _, _, rfl, rfl, SqT.of hre, (L2.atI_nat (j := 0) rfl), B, l, v1, ns, da, rfl, Ez _ _ hl, l4, q1, fun H4 e4 => ?_⟩
      cases is : isSeatO ns (oT da) with
      | false =>
        refine ⟨_, rfl, itt rfl ?_⟩
        exact ⟨_, rfl, bad (by unfold entD; rw [if_neg (by rw [is]; simp)]) _ e4⟩
      | true =>
      refine ⟨_, rfl, itf rfl ?_⟩
      refine ⟨_, rfl, _, rfl, r, _, _, _, rfl, rfl, SqT.of (e4 _ _ hre), (L2.atI_nat (j := 1) rfl), B, l, v2, ns, db, rfl, (ext Ez e4) _ _ hl, l4, q2.mono e4, pS2 e memE _ et db (by simp), fun H5 e5 => ?_⟩
      have E5 := ext e4 e5
      cases ic : isCallO ns (oT db) with
      | false =>
        refine ⟨_, rfl, itt rfl ?_⟩
        exact ⟨_, rfl, bad (by unfold entD; rw [if_pos is, if_neg (by rw [ic]; simp)]) _ E5⟩
      | true =>
      refine ⟨_, rfl, itf rfl ?_⟩
      obtain ⟨p, rfl, sp⟩ := seat_ints is
      obtain ⟨cs, rfl, lc⟩ := call_ints ic
      obtain ⟨c, rfl, hc⟩ := q1.intsT
      obtain ⟨c2, rfl, hcc⟩ := q2.intsT
      have ee : entD ns (atD 0 tss ++ zs) (iT p) (iT cs) = match dep (atD 0 tss ++ zs) p with
          | some _ => none
          | none => match dep (atD 0 tss ++ zs) (shiftL ns p cs 1) with
            | none => none
            | some x => match dep (atD 0 tss ++ zs) (shiftL ns p cs (-1)) with
              | none => none
              | some y => some (p, max x y + 1) := by
        unfold entD
        rw [if_pos is, if_pos ic, intsD_is, intsD_is] <;> rfl
      rw [ee] at bad hgo
      clear ee eo
      have lp := sp.len
      have hD5 := hDx.mono (ext ez E5)
      refine ⟨_, rfl, r, _, _, _, rfl, rfl, SqT.of (E5 _ _ hre), (L2.atI_nat (j := 0) rfl), _, rfl, D, _, rfl, cnt_get hD5 (E5 _ _ hc), _, rfl, ?_⟩
      rw [Option.isSome_map]
      cases hn : dep (atD 0 tss ++ zs) p with
      | some z =>
        refine itt rfl ?_
        exact ⟨_, rfl, bad (by rw [hn]) _ E5⟩
      | none =>
      refine itf rfl ?_
      rw [hn] at bad hgo
      dsimp only [tNext]
      refine ⟨_, rfl, _, rfl, r, _, _, _, rfl, rfl, SqT.of (E5 _ _ hre), (L2.atI_nat (j := 0) rfl), _, rfl, r, _, _, _, rfl, rfl, SqT.of (E5 _ _ hre), (L2.atI_nat (j := 1) rfl), l, c, c2, ns, p, cs, rfl, (ext Ez E5) _ _ hl, ok, E5 _ _ hc, E5 _ _ hcc, lp, lc, fun qq ff bb H6 e6 hq hff hbb => ?_⟩
      have E6 := ext E5 e6
      have hD6 := hD5.mono e6
      dsimp only [gName]
      refine ⟨_, rfl, qq, _, _, _, rfl, rfl, SqT.of hq, (L2.atI_nat (j := 0) rfl), _, rfl, D, _, rfl, cnt_get hD6 hff, _, rfl, ?_⟩
      rw [Option.isSome_map]
      cases hx : dep (atD 0 tss ++ zs) (shiftL ns p cs 1) with
      | none =>
        refine itt rfl ?_
        exact ⟨_, rfl, bad (by rw [hx]) _ E6⟩
      | some x =>
      refine itf rfl ?_
      rw [hx] at bad hgo
      refine ⟨_, rfl, qq, _, _, _, rfl, rfl, SqT.of hq, (L2.atI_nat (j := 1) rfl), _, rfl, D, _, rfl, cnt_get hD6 hbb, _, rfl, ?_⟩
      rw [Option.isSome_map]
      cases hy : dep (atD 0 tss ++ zs) (shiftL ns p cs (-1)) with
      | none =>
        refine itt rfl ?_
        exact ⟨_, rfl, bad (by rw [hy]) _ E6⟩
      | some y =>
      refine itf rfl ?_
      rw [hy] at hgo
      clear bad
      dsimp only [tNext]
      have gx := cnt_get hD6 hff
      rw [hx] at gx
      have gy := cnt_get hD6 hbb
      rw [hy] at gy
      refine ⟨_, rfl, _, rfl, qq, _, _, _, rfl, rfl, SqT.of hq, (L2.atI_nat (j := 0) rfl), D, _, rfl, gx, ?_⟩
      refine ⟨_, rfl, _, rfl, qq, _, _, _, rfl, rfl, SqT.of hq, (L2.atI_nat (j := 1) rfl), D, _, rfl, gy, ?_⟩
      refine ⟨_, _, rfl, _, _, rfl, rfl, ?_⟩
      have ev : (1 : Int) + (if (y : Int) > (x : Int) then (y : Int) else (x : Int)) = ((max x y + 1 : Nat) : Int) := by
        split <;> omega
      have hlz : zs.length ≤ 1000 := by omega
      have ezs6 := ext ez E6
      refine ⟨_, rfl, _, rfl, r, _, _, _, rfl, rfl, SqT.of (E6 _ _ hre), (L2.atI_nat (j := 0) rfl), D, _, rfl, DPut.t hD6 (by rw [entK_kV]; exact E6 _ _ hc) ?_, ?_⟩
      · rw [List.length_map, List.length_append, List.length_map]
        exact Nat.lt_of_le_of_lt (show _ ≤ 2000 by omega) (by decide)
      rw [putK_new _ (by rw [val_ent, hn]; rfl)]
      dsimp only
      rw [ev]
      generalize hG6 : upd H6 D _ = H7
      have hD7 : CntAt H7 D (atD 0 tss ++ (zs ++ [(p, max x y + 1)])) := by
        rw [← hG6]
        show upd _ _ _ _ = _
        rw [upd_same, ← List.append_assoc, List.map_append (l₂ := [(p, max x y + 1)])]
        rfl
      have tp7 : ∀ c ws, H6 c = some (.tup ws) → H7 c = some (.tup ws) := fun c ws z => hG6 ▸ tup_dict hD6 z
      have hf7 : H7 f = some (.lst ys) := by
        rw [← hG6, upd_ne (Ne.symm nDf)]
        exact ezs6 _ _ hfx
      have E7 : Ex H H7 := hG6 ▸ ex_upd (ext Ez E6) nD
      clear hG6
      have gz := cnt_get hD7 (tp7 _ _ (E6 _ _ hc))
      rw [← List.append_assoc, dep_last hn] at gz
      refine ⟨_, rfl, .inl ⟨rfl, _, SqL.of hf7⟩, _, rfl, r, _, _, _, rfl, rfl, SqT.of (tp7 _ _ (E6 _ _ hre)), (L2.atI_nat (j := 0) rfl), _, rfl, _, rfl, r, _, _, _, rfl, rfl, SqT.of (tp7 _ _ (E6 _ _ hre)), (L2.atI_nat (j := 0) rfl), D, _, rfl, gz, slen rfl, ?_⟩
      (intro tt ntt; generalize hGtt : upd _ tt _ = H8; have eH8 := exG hGtt ntt; have htt := atG hGtt; clear hGtt)
      have hf8 := eH8 _ _ hf7
      have lys : ys.length ≤ 1000 := by
        rw [Paired.length py]
        omega
      refine ⟨f, _, _, rfl, rfl, hf8, Nat.lt_of_le_of_lt lys (by decide), ?_⟩
      have tp8 : ∀ c ws, H8 c = some (.tup ws) → upd H8 f (.lst (ys ++ [.ref tt])) c = some (.tup ws) := fun c ws z => tup_pshL hf8 z
      refine ⟨_, _, _, _, ys ++ [.ref tt], zs ++ [(p, max x y + 1)], rfl, ex_upd (ext E7 eH8) nf0, ?_, upd_same, ?_, by rw [List.length_append, lz]; rfl, hgo⟩
      · show upd _ _ _ _ = _
        rw [upd_ne nDf]
        exact eH8 _ _ hD7
      · exact paired_snoc ⟨tt, c, rfl, tp8 _ _ htt, tp8 _ _ (eH8 _ _ (tp7 _ _ (E6 _ _ hc)))⟩ (paired_mono (fun v b z => pds_mono _ _ v b (fun c ws z => tp8 _ _ (eH8 _ _ (tp7 _ _ (ezs6 _ _ z)))) z) py)
    · rintro σ Hx ⟨y5, y6, y7, y8, ys, zs, rfl, ex, hDx, hfx, py, lz, hgo⟩
      rw [lxs, List.drop_length] at hgo
      exact ⟨_, rfl, kQ zs hgo f ys Hx ex nf0 hfx py⟩
end

/-! ### data that repr shows, and how long the text is -/
def Shw (c : Nat) (d : PyData) : Prop := d.showable = true ∧ d.hasDict = false ∧ d.shown.length ≤ c
theorem Shw.up {c e : Nat} {d : PyData} (h : Shw c d) (l : c ≤ e) : Shw e d := ⟨h.1, h.2.1, Nat.le_trans h.2.2 l⟩
theorem shw_int {i : Int} (h : i.natAbs < 10 ^ 12) : Shw 13 (.int i) := by
  refine ⟨?_, rfl, PyData.shown_int_le h⟩
  show decide (i.natAbs.log2 < 1920) = true
  refine decide_eq_true ?_
  have : i.natAbs.log2 < 40 := by
    by_cases z : i.natAbs = 0
    · rw [z]
      decide
    · exact (Nat.log2_lt z).mpr (Nat.lt_of_lt_of_le h (by decide))
  omega
theorem shw_all {c : Nat} : ∀ {ds : List PyData}, (∀ d ∈ ds, Shw c d) → PyData.showableAll ds = true ∧ PyData.hasDictAll ds = false ∧ ((PyData.shownAll ds).map (·.length)).sum ≤ ds.length * c ∧ (PyData.shownAll ds).length = ds.length
  | [], _ => ⟨rfl, rfl, by simp [PyData.shownAll], rfl⟩
  | d :: ds, h => by
    obtain ⟨a, b, e⟩ := h d List.mem_cons_self
    obtain ⟨a2, b2, e2, l2⟩ := shw_all fun x hx => h x (List.mem_cons_of_mem _ hx)
    refine ⟨by simp only [PyData.showableAll, a, a2, Bool.and_true], by simp only [PyData.hasDictAll, b, b2, Bool.or_false], ?_, by simp only [PyData.shownAll, List.length_cons, l2]⟩
    simp only [PyData.shownAll, List.map_cons, List.sum_cons, List.length_cons, Nat.succ_mul]
    omega
theorem shw_tuple {c : Nat} {ds : List PyData} (h : ∀ d ∈ ds, Shw c d) : Shw (ds.length * (c + 2) + 3) (.tuple ds) := by
  obtain ⟨a, b, e, l⟩ := shw_all h
  refine ⟨by simpa only [PyData.showable] using a, by simpa only [PyData.hasDict] using b, ?_⟩
  have := tupleText_len_le (PyData.shownAll ds)
  simp only [PyData.shown, Nat.mul_add] at *
  omega
theorem shw_list {c : Nat} {ds : List PyData} (h : ∀ d ∈ ds, Shw c d) : Shw (ds.length * (c + 2) + 3) (.list ds) := by
  obtain ⟨a, b, e, l⟩ := shw_all h
  refine ⟨by simpa only [PyData.showable] using a, by simpa only [PyData.hasDict] using b, ?_⟩
  have := listText_len_le (PyData.shownAll ds)
  simp only [PyData.shown, Nat.mul_add] at *
  omega
theorem shw_ints {ps : List Int} (h : ∀ x ∈ ps, x.natAbs < 10 ^ 12) : Shw (ps.length * 15 + 3) (iT ps) := by
  have := shw_tuple (c := 13) (ds := ps.map PyData.int) fun d hd => by
    obtain ⟨i, hi, rfl⟩ := List.mem_map.mp hd
    exact shw_int (h i hi)
  rw [List.length_map] at this
  exact this
theorem shw_big {i : Int} (h : i.natAbs.log2 < 1920) : Shw 1921 (.int i) := ⟨decide_eq_true h, rfl, int_text_len_1921 h⟩

/-! ### plans as data that can be shown and compared -/
theorem lt_pow {a b c : Nat} (h : a < 2 ^ b) (hbc : b ≤ c) : a < 2 ^ c := Nat.lt_of_lt_of_le h (Nat.pow_le_pow_right (by decide) hbc)
structure Prt (d : PyData) : Prop where
  shw : Shw 21000 d
  sh : Sh 5 d
  st : ShortT d
  ps : PartS d
theorem at_int {i : Int} (h : i.natAbs < 2 ^ 300) : Shw 2000 (.int i) := by
  refine (shw_big ?_).up (by decide)
  by_cases z : i.natAbs = 0
  · rw [z]
    decide
  · exact (Nat.log2_lt z).mpr (Nat.lt_of_lt_of_le h (Nat.pow_le_pow_right (by decide) (by decide)))
theorem at_bool (b : Bool) : Shw 2000 (.bool b) ∧ Sh 1 (.bool b) := ⟨⟨rfl, rfl, by cases b <;> decide +kernel⟩, ⟨rfl, by simp only [PyData.depth]; omega⟩⟩
theorem prt_tup {ds : List PyData} (l : ds.length ≤ 10) (h : ∀ d ∈ ds, Shw 2000 d ∧ Sh 1 d) : Prt (.tuple ds) := by
  have := Nat.mul_le_mul_right 2002 l
  refine ⟨(shw_tuple fun d hd => (h d hd).1).up (by omega), (sh_tuple fun d hd => (h d hd).2).up (by decide), fun es e => ?_, fun es e x hx => ?_⟩
  · cases e
    omega
  · cases e
    exact (h x hx).2.up (by decide)
theorem prt_list {ds : List PyData} (l : ds.length ≤ 10) (h : ∀ d ∈ ds, Shw 2000 d ∧ Sh 1 d) : Prt (.list ds) := by
  have := Nat.mul_le_mul_right 2002 l
  exact ⟨(shw_list fun d hd => (h d hd).1).up (by omega), (sh_list fun d hd => (h d hd).2).up (by decide), (fun es e => by cases e), (fun es e x hx => by cases e)⟩
theorem at_ints {ps : List Int} (h : ∀ p ∈ ps, p.natAbs < 2 ^ 300) : ∀ d ∈ ps.map PyData.int, Shw 2000 d ∧ Sh 1 d := fun d hd => by
  obtain ⟨p, hp, rfl⟩ := List.mem_map.mp hd
  exact ⟨at_int (h p hp), sh_int p⟩
theorem prt_ints {ps : List Int} (l : ps.length ≤ 10) (h : ∀ p ∈ ps, p.natAbs < 2 ^ 300) : Prt (iT ps) := prt_tup (by rw [List.length_map]; exact l) (at_ints h)
theorem prt_none : Prt .none := ⟨⟨rfl, rfl, Nat.le_trans (show PyData.none.shown.length ≤ 100 by decide +kernel) (by omega)⟩, ⟨rfl, by decide⟩, (fun es e => by cases e), (fun es e x hx => by cases e)⟩
theorem prt_int {i : Int} (h : i.natAbs < 2 ^ 300) : Prt (.int i) := ⟨(at_int h).up (by omega), sh_int i, (fun es e => by cases e), (fun es e x hx => by cases e)⟩
structure EntG (d : PyData) : Prop where
  shw : Shw 90000 d
  sh : Sh 10 d
  et : EntT d
  ps : ∀ es, tupD d = some es → ∀ b ∈ es, PartS b
theorem entg_tup {ds : List PyData} (l : ds.length ≤ 4) (h : ∀ d ∈ ds, Prt d) : EntG (.tuple ds) := by
  have := Nat.mul_le_mul_right 21002 l
  refine ⟨(shw_tuple fun d hd => (h d hd).shw).up (by omega), (sh_tuple fun d hd => (h d hd).sh).up (by decide), fun es e x hx => ?_, fun es e x hx => ?_⟩
  · cases e
    exact (h x hx).st
  · cases e
    exact (h x hx).ps
theorem entg_list {ds : List PyData} (l : ds.length ≤ 4) (h : ∀ d ∈ ds, Prt d) : EntG (.list ds) := by
  have := Nat.mul_le_mul_right 21002 l
  exact ⟨(shw_list fun d hd => (h d hd).shw).up (by omega), (sh_list fun d hd => (h d hd).sh).up (by decide), (fun es e x hx => by cases e), (fun es e x hx => by cases e)⟩
theorem entg_none : EntG .none := ⟨prt_none.shw.up (by omega), prt_none.sh.up (by decide), (fun es e x hx => by cases e), (fun es e x hx => by cases e)⟩
theorem entg_word : EntG (.str "entry") := ⟨⟨rfl, rfl, Nat.le_trans (show (PyData.str "entry").shown.length ≤ 100 by rw [PyData.shown_str]; decide +kernel) (by omega)⟩, ⟨by simp only [PyData.canLay0]; decide +kernel, by simp only [PyData.depth]; omega⟩, (fun es e x hx => by cases e), (fun es e x hx => by cases e)⟩
/-- the calls of an entry are not too large -/
def CallB (n : Nat) (e : PyData) : Prop := ∀ p cs : List Int, e = .tuple [iT p, iT cs] → ∀ c ∈ cs, c.natAbs ≤ 10 ^ 42 + n
theorem callB_pair {n : Nat} {p cs : List Int} (h : ∀ c ∈ cs, c.natAbs ≤ 10 ^ 42 + n) : CallB n (.tuple [iT p, iT cs]) := fun p2 cs2 e => by
  have e2 : iT cs = iT cs2 := by
    injection e with e
    injection e with _ e
    injection e
  have e3 : cs = cs2 := by
    injection e2 with e2
    have := congrArg (List.filterMap intD) e2
    rwa [fm_ints, fm_ints] at this
  rw [← e3]
  exact h
theorem callB_not {n : Nat} {e : PyData} (h : ∀ p cs : List Int, e ≠ .tuple [iT p, iT cs]) : CallB n e := fun p cs z => absurd z (h p cs)
theorem callB_len {n : Nat} {ds : List PyData} (h : ds.length ≠ 2) : CallB n (.tuple ds) := fun p cs e => by
  injection e with e
  rw [e] at h
  exact absurd rfl h
theorem callB_list {n : Nat} {ds : List PyData} : CallB n (.list ds) := fun p cs e => PyData.noConfusion e
theorem callB_fst {n : Nat} {a b : PyData} (h : ∀ p : List Int, a ≠ iT p) : CallB n (.tuple [a, b]) := fun p cs e => by
  injection e with e
  injection e with e _
  exact absurd e (h p)
theorem callB_snd {n : Nat} {a b : PyData} (h : ∀ p : List Int, b ≠ iT p) : CallB n (.tuple [a, b]) := fun p cs e => by
  injection e with e
  injection e with _ e
  injection e with e _
  exact absurd e (h cs)
theorem CallB.up {n m : Nat} {e : PyData} (h : CallB n e) (l : n ≤ m) : CallB m e := fun p cs z c hc => Nat.le_trans (h p cs z c hc) (Nat.add_le_add_left l _)
structure Pln (n : Nat) (d : PyData) : Prop where
  shw : Shw (40 * 90002 + 3) d
  sh : Sh 20 d
  kd : d = .none ∨ (∃ ds, d = .list ds) ∨ ∃ ds, d = .tuple ds
  ents : ∀ ds, lstD d = some ds → ds.length ≤ n ∧ ∀ e ∈ ds, EntG e ∧ CallB n e
theorem pln_list {n : Nat} {ds : List PyData} (l : ds.length ≤ n) (n40 : n ≤ 40) (h : ∀ d ∈ ds, EntG d ∧ CallB n d) : Pln n (.list ds) := by
  have := Nat.mul_le_mul_right 90002 (Nat.le_trans l n40)
  exact ⟨(shw_list fun d hd => (h d hd).1.shw).up (Nat.add_le_add_right this 3), (sh_list fun d hd => (h d hd).1.sh).up (by decide), .inr (.inl ⟨_, rfl⟩), fun es e => by cases e; exact ⟨l, h⟩⟩
theorem pln_tup {n : Nat} {ds : List PyData} (l : ds.length ≤ 40) (h : ∀ d ∈ ds, EntG d) : Pln n (.tuple ds) := by
  have := Nat.mul_le_mul_right 90002 l
  exact ⟨(shw_tuple fun d hd => (h d hd).shw).up (Nat.add_le_add_right this 3), (sh_tuple fun d hd => (h d hd).sh).up (by decide), .inr (.inr ⟨_, rfl⟩), (fun es e => by cases e)⟩
theorem pln_none {n : Nat} : Pln n .none := ⟨prt_none.shw.up (by omega), prt_none.sh.up (by decide), .inl rfl, (fun es e => by cases e)⟩
theorem Pln.planT {n : Nat} {d : PyData} (h : Pln n d) (l : n ≤ 1000) : PlanT d := fun ds e => ⟨Nat.le_trans (h.ents ds e).1 l, fun x hx => ((h.ents ds e).2 x hx).1.et⟩
theorem Pln.parts {n : Nat} {d : PyData} (h : Pln n d) : ∀ ds, lstD d = some ds → ∀ e ∈ ds, ∀ es, tupD e = some es → ∀ b ∈ es, PartS b := fun ds e x hx => ((h.ents ds e).2 x hx).1.ps

section
variable {P : Program} {w : World} {K : PySem.W.Frag} {mg : Str → Option Value} {base : Heap}
def sp_law_goals : Sp := fun vs H Q _ => ∃ (s l : Addr) (ns : List Int), vs = [.ref s, .ref l] ∧ Src H s ∧ H l = some (.lst (ns.map V.int)) ∧ l ≠ s ∧ SzOk ns ∧ (∀ n ∈ ns, n.natAbs < 2 ^ 5000) ∧
  ∀ (q : Addr) (tss : List (List Int)) H2, RowsAt H2 q tss → H q = none → q ≠ s → tss ≠ [] → tss.length ≤ 4 → (∀ t ∈ tss, SeatOk ns t) → tss.Nodup → XB s H H2 → Src H2 s → Q (.ref q) H2
theorem ok_law_goals (T : TX K mg) : FnOk P w K mg base CX0 3 T.f_law_goals T.fd_law_goals ["_law_source_here", "_law_rings_here"] sp_law_goals := by
  refine T.F_law_goals.ok sc_law_goals (fun vs H Q E h => ?_) (fun cdv A outer s H vs Q E hr h => ?_)
  · obtain ⟨s, l, ns, rfl, _⟩ := h
    rfl
  · obtain ⟨s, l, ns, rfl, hs, hl, nls, ok, bn, k⟩ := h
    refine ⟨_, (pss_cons (ps_set (i := 2) sc_law_goals.nd rfl (Or.inl rfl) (pe_lst pa_nil)) (pss_cons (ps_for PassesOwn.never rfl (pi_range1 rfl T.z_range (pa_cons (pe_op op_add pe_int (pe_call (ok_law_draw T) hr rfl T.m_law_draw T.F_law_draw.kp T.b_law_draw .nil pass0 (pa_cons (pv 0) (pa_cons pe_int pa_nil)))) pa_nil)) (pg_name (i := 3) sc_law_goals.nd rfl (Or.inl rfl)) (pss_cons (ps_set (i := 4) sc_law_goals.nd rfl (Or.inl rfl) (pe_callTy call_tuple_of (by rfl) T.z_tuple (by decide +kernel) (pa_cons (pe_lc (own := [("_law_size", 5)]) (g := (gName 5)) rfl sc_law_goals.nd (pi_list (pv 1)) (blkOk_by (N := N_law_goals) (sc := defScope s_law_goals) (by decide +kernel)) (fun _ _ _ _ _ => (pg_name (i := 5) sc_law_goals.nd rfl (Or.inl rfl))) (fun _ _ _ _ _ => pts_nil) (fun _ _ _ _ _ => (pe_call (ok_law_draw T) hr rfl T.m_law_draw T.F_law_draw.kp T.b_law_draw .nil pass0 (pa_cons (pv 0) (pa_cons (pv 5) pa_nil))))) pa_nil))) (pss_one (ps_if (pt_cmpR (r := rNotInD K) (op_notInD (u65 hr)) (pv 4) (pv 2) rfl) (pss_one (ps_expr (pe_bm PySem.F.plainAttrs_list PySem.F.slot_list_append PySem.F.type_list_append mt_append (pv 2) (pa_cons (pv 4) pa_nil)))) pss_nil)))) (pss_one (ps_ret (pv 2))))), ?_⟩
    refine ⟨slen rfl, ?_⟩
    (intro f nf; generalize hGf : upd _ f _ = H1; have eH1 := exG hGf nf; have hf := atG hGf; clear hGf)
    have fs : f ≠ s := hs.ne nf
    dsimp only [gName]
    refine ⟨_, rfl, s, 4, rfl, hs.mono eH1, by decide, by decide +kernel, fun r H2 r0 r1 xb2 src2 => ?_⟩
    refine ⟨_, _, rfl, rfl, _, rfl, by omega, by omega, ?_⟩
    refine for_it walk_range (fun i σ Hx => ∃ (y3 y4 y5 : Option V) (tss : List (List Int)), σ = [some (.ref s), some (.ref l), some (.ref f), y3, y4, y5] ∧ RowsAt Hx f tss ∧ tss.length ≤ i ∧ (1 ≤ i → tss ≠ []) ∧ (∀ t ∈ tss, SeatOk ns t) ∧ tss.Nodup ∧ XB s H Hx ∧ Src Hx s) ⟨_, _, _, [], rfl, ⟨[], xb2 _ _ fs hf, .nil⟩, Nat.le_refl _, (fun z => by omega), (fun t ht => nomatch ht), .nil, (XB.of eH1).trans xb2, src2⟩ (fun _ _ _ _ _ => True.intro) ?_ ?_
    · rintro i x σ _ Hx hi ⟨y3, y4, y5, tss, rfl, ra, lt, ne, sks, nod, xbx, srcx⟩ ⟨rfl, hx⟩
      obtain rfl : x = .int (i : Int) := hx.trans (congrArg V.int (Int.zero_add _))
      have hi2 : i < (1 + r).toNat := hi
      have hlx := xbx _ _ nls hl
      dsimp only [gName]
      refine ⟨_, rfl, l, rfl, ⟨_, SqL.of hlx⟩, fun D hD => ?_⟩
      have nD : D ≠ s := srcx.ne hD
      have nfD : f ≠ D := ne_of_none (show Hx f = some _ from ra.choose_spec.1) hD
      refine lc_it (walk_list (xs := ns.map V.int)) (fun j H2 => ∃ ps : List Int, H2 D = some (.lst (ps.map V.int)) ∧ SeatOk (ns.take j) ps ∧ XB s Hx H2 ∧ Src H2 s) ⟨[], upd_same, True.intro, XB.of (exn hD), srcx.new hD⟩ (fun i H2 _ ⟨ps, _, _, xb, _⟩ => SqL.of (xb _ _ nls hlx)) ?_ ?_
      · rintro j x _ H2 hj ⟨ps, hD2, sk, xb, src⟩ ⟨rfl, hx⟩
        obtain ⟨n, hn, rfl⟩ := map_get hx
        have n1 := ok.one n (List.mem_of_getElem? hn)
        refine ⟨rfl, _, rfl, _, rfl, s, n, rfl, src, by omega, lt_pow (bn n (List.mem_of_getElem? hn)) (by decide), fun r H4 r0 r1 xb4 src4 => ?_⟩
        refine ⟨ps.map V.int, xb4 _ _ nD hD2, ?_, ps ++ [r], ?_, ?_, (xb.trans xb4).app hD, src4.app nD⟩
        · have hl4 := ok.le
          have := sk.len
          rw [List.length_take] at this
          rw [List.length_map]
          exact Nat.lt_of_le_of_lt (show ps.length ≤ 4 by omega) (by decide)
        · rw [upd_same, List.map_append]
          rfl
        · rw [take_more hn]
          exact sk.snoc r0 r1
      rintro H2 ⟨ps, hD2, sk, xb, src⟩
      rw [List.length_map, List.take_length] at sk
      refine ⟨D, _, rfl, .inl ⟨SqL.of hD2, fun q nq => ?_⟩⟩
      generalize hG : upd H2 q _ = Hy
      have eq := exG hG nq
      have hq := atG hG
      clear hG
      have xby := xb.trans (XB.of eq)
      have srcy := src.mono eq
      obtain ⟨zs, z1, z2⟩ := ra
      have z1y := xby _ _ fs z1
      have z2y := z2.monoT fun _ _ z => tup_xb srcx z xby
      dsimp only [gName]
      refine ⟨_, rfl, _, rfl, iT ps, tss.map iT, dp_ints hq, .lst (SqL.of z1y) z2y.dp, (sh_ints (n := 59) _).ok, (sh_rows (n := 58) _).ok, ?_⟩
      rw [any_rows]
      refine ⟨_, rfl, ?_⟩
      by_cases c : ps ∈ tss
      · exact itf (by rw [decide_eq_true c]; rfl) ⟨_, _, _, tss, rfl, ⟨zs, z1y, z2y⟩, by omega, fun _ z => (by rw [z] at c; cases c), sks, nod, xbx.trans xby, srcy⟩
      · refine itt (by rw [decide_eq_false c]; rfl) ⟨_, rfl, .inl ⟨rfl, _, SqL.of z1y⟩, _, rfl, f, _, _, rfl, rfl, z1y, ?_, ?_⟩
        · rw [Paired.length z2]
          exact Nat.lt_of_le_of_lt (show tss.length ≤ 1000 by omega) (by decide)
        refine ⟨_, _, _, tss ++ [ps], rfl, ⟨zs ++ [.ref q], upd_same, RowsR.snoc (tup_pshL z1y hq) (z2y.monoT fun c zs z => tup_pshL z1y z)⟩, by rw [List.length_append]; show tss.length + 1 ≤ i + 1; omega, fun _ => by simp, fun t ht => ?_, ?_, (xbx.trans xby).app nf, srcy.app fs⟩
        · rcases List.mem_append.mp ht with h | h
          · exact sks t h
          · rw [List.mem_singleton.mp h]
            exact sk
        · rw [List.nodup_append]
          exact ⟨nod, by simp, fun a ha b hb z => c (by rw [List.mem_singleton.mp hb] at z; exact z ▸ ha)⟩
    · rintro σ Hx ⟨y3, y4, y5, tss, rfl, ra, lt, ne, sks, nod, xbx, srcx⟩
      have lt2 : tss.length ≤ (1 + r).toNat := lt
      exact ⟨_, rfl, k f tss Hx ra nf fs (ne (by show 1 ≤ (1 + r).toNat; omega)) (by omega) sks nod xbx srcx⟩
end

theorem seat_iff : ∀ {ns p : List Int}, SeatOk ns p ↔ p.length = ns.length ∧ ∀ (i : Nat) (n x : Int), ns[i]? = some n → p[i]? = some x → 0 ≤ x ∧ x < n
  | [], [] => by simp [SeatOk]
  | [], _ :: _ => by simp [SeatOk]
  | _ :: _, [] => by simp [SeatOk]
  | n :: ns, x :: p => by
    show ((0 ≤ x ∧ x < n) ∧ SeatOk ns p) ↔ _
    rw [seat_iff]
    constructor
    · rintro ⟨h0, hl, h⟩
      refine ⟨by rw [List.length_cons, List.length_cons, hl], fun i m y hm hy => ?_⟩
      cases i with
      | zero => cases hm; cases hy; exact h0
      | succ i => exact h i m y (by simpa using hm) (by simpa using hy)
    · rintro ⟨hl, h⟩
      exact ⟨h 0 n x rfl rfl, Nat.succ.inj hl, fun i m y hm hy => h (i + 1) m y (by simpa using hm) (by simpa using hy)⟩

def callF (f : Int) : List Int → List Int → List Int → List Int
  | n :: ns, a :: as, x :: xs => (a - x + f * n) :: callF f ns as xs
  | _, _, _ => []
theorem callF_len (f : Int) : ∀ {ns ps xs : List Int}, ps.length = ns.length → xs.length = ns.length → (callF f ns ps xs).length = ns.length
  | [], _, _, _, _ => by
    unfold callF
    rfl
  | n :: ns, [], _, h, _ => by cases h
  | n :: ns, _ :: _, [], _, h => by cases h
  | n :: ns, a :: ps, x :: xs, h, h2 => by
    show (callF f ns ps xs).length + 1 = _
    rw [callF_len f (by simpa using h) (by simpa using h2)]
    rfl
theorem callF_get (f : Int) : ∀ {ns ps xs : List Int} {i : Nat} {n a x : Int}, ns[i]? = some n → ps[i]? = some a → xs[i]? = some x → (callF f ns ps xs)[i]? = some (a - x + f * n)
  | [], _, _, _, _, _, _, h, _, _ => by simp at h
  | _ :: _, [], _, _, _, _, _, _, h, _ => by simp at h
  | _ :: _, _ :: _, [], _, _, _, _, _, _, h => by simp at h
  | n0 :: ns, a0 :: ps, x0 :: xs, 0, n, a, x, hn, ha, hx => by
    obtain rfl := Option.some.inj hn
    obtain rfl := Option.some.inj ha
    obtain rfl := Option.some.inj hx
    rfl
  | n0 :: ns, a0 :: ps, x0 :: xs, i + 1, n, a, x, hn, ha, hx => callF_get f (ns := ns) (ps := ps) (xs := xs) (i := i) (by simpa using hn) (by simpa using ha) (by simpa using hx)
theorem list_pt {xs ys : List Int} (l : xs.length = ys.length) (h : ∀ (i : Nat) (y : Int), ys[i]? = some y → xs[i]? = some y) : xs = ys := List.ext_getElem? fun i => by
  by_cases c : i < ys.length
  · rw [List.getElem?_eq_getElem c]
    exact h i _ (List.getElem?_eq_getElem c)
  · rw [List.getElem?_eq_none (by omega), List.getElem?_eq_none (by omega)]
theorem mid_call {ns p q m : List Int} (f : Int) (hm : MidU ns p q ns.length m) (skp : SeatOk ns p) (skq : SeatOk ns q) : SeatOk ns m ∧ (callF f ns p m).length = ns.length ∧ shiftL ns m (callF f ns p m) 1 = p ∧ shiftL ns m (callF f ns p m) (-1) = q := by
  obtain ⟨lm, pm⟩ := hm
  have lp := skp.len
  have lq := skq.len
  have lc := callF_len f lp lm
  have at4 : ∀ i, i < ns.length → ∃ n a b x, ns[i]? = some n ∧ p[i]? = some a ∧ q[i]? = some b ∧ m[i]? = some x ∧ 0 ≤ a ∧ a < n ∧ 0 ≤ b ∧ b < n ∧ 0 ≤ x ∧ x < n ∧ (2 * x - (a + b)) % n = 0 := fun i hi => by
    have h1 := List.getElem?_eq_getElem hi
    have h2 := List.getElem?_eq_getElem (l := p) (i := i) (by omega)
    have h3 := List.getElem?_eq_getElem (l := q) (i := i) (by omega)
    have h4 := List.getElem?_eq_getElem (l := m) (i := i) (by omega)
    obtain ⟨a0, a1⟩ := (seat_iff.mp skp).2 i _ _ h1 h2
    obtain ⟨b0, b1⟩ := (seat_iff.mp skq).2 i _ _ h1 h3
    obtain ⟨c0, c1, c2⟩ := pm i _ _ _ _ h1 h2 h3 h4
    exact ⟨_, _, _, _, h1, h2, h3, h4, a0, a1, b0, b1, c0, c1, c2⟩
  refine ⟨seat_iff.mpr ⟨lm, fun j n x hn hx => ?_⟩, lc, ?_, ?_⟩
  · obtain ⟨n2, a, b, x2, h1, h2, h3, h4, _, _, _, _, c0, c1, _⟩ := at4 j (List.getElem?_eq_some_iff.mp hn).1
    obtain rfl := Option.some.inj (h1.symm.trans hn)
    obtain rfl := Option.some.inj (h4.symm.trans hx)
    exact ⟨c0, c1⟩
  · refine list_pt (by rw [shift_len lm lc, lp]) fun i y hy => ?_
    obtain ⟨n, a, b, x, h1, h2, h3, h4, a0, a1, b0, b1, c0, c1, c2⟩ := at4 i (by rw [← lp]; exact (List.getElem?_eq_some_iff.mp hy).1)
    obtain rfl := Option.some.inj (h2.symm.trans hy)
    rw [shift_get h1 h4 (callF_get f h1 h2 h4)]
    rw [show x + 1 * (a - x + f * n) = a + n * f by rw [Int.one_mul, Int.mul_comm n f]; omega, Int.add_mul_emod_self_left, Int.emod_eq_of_lt a0 a1]
  · refine list_pt (by rw [shift_len lm lc, lq]) fun i y hy => ?_
    obtain ⟨n, a, b, x, h1, h2, h3, h4, a0, a1, b0, b1, c0, c1, c2⟩ := at4 i (by rw [← lq]; exact (List.getElem?_eq_some_iff.mp hy).1)
    obtain rfl := Option.some.inj (h3.symm.trans hy)
    rw [shift_get h1 h4 (callF_get f h1 h2 h4)]
    obtain ⟨k, hk⟩ := Int.dvd_of_emod_eq_zero c2
    rw [show x + -1 * (a - x + f * n) = b + n * (k - f) by rw [Int.mul_sub, Int.mul_comm f n]; omega, Int.add_mul_emod_self_left, Int.emod_eq_of_lt b0 b1]

theorem mem_rows {H : Hp} : ∀ {ys : List V} {tss : List (List Int)} {v : V}, RowsR H ys tss → v ∈ ys → ∃ r ts, v = V.ref r ∧ ts ∈ tss ∧ H r = some (.tup (ts.map V.int))
  | y :: ys, ts :: tss, v, .cons q t, h => by
    rcases List.mem_cons.mp h with rfl | h
    · obtain ⟨r, h1, h2⟩ := q
      exact ⟨r, ts, h1, List.mem_cons_self, h2⟩
    · obtain ⟨r, ts, h1, h2, h3⟩ := mem_rows t h
      exact ⟨r, ts, h1, List.mem_cons_of_mem _ h2, h3⟩

def PdE (H : Hp) (x : V) (e : List Int × List Int) : Prop := ∃ r c d, x = V.ref r ∧ H r = some (.tup [.ref c, .ref d]) ∧ H c = some (.tup (e.1.map V.int)) ∧ H d = some (.tup (e.2.map V.int))
theorem pde_mono (H H2 : Hp) (v : V) (a : List Int × List Int) (e : ∀ c xs, H c = some (.tup xs) → H2 c = some (.tup xs)) (h : PdE H v a) : PdE H2 v a := by
  obtain ⟨r, c, d, h1, h2, h3, h4⟩ := h
  exact ⟨r, c, d, h1, e _ _ h2, e _ _ h3, e _ _ h4⟩
/-! ### plans in plain words: which seats are known -/
abbrev Ent := List Int × List Int
def ValidK (ns : List Int) : List (List Int) → List Ent → Prop
  | _, [] => True
  | kn, e :: es => (SeatOk ns e.1 ∧ e.2.length = ns.length ∧ e.1 ∉ kn ∧ shiftL ns e.1 e.2 1 ∈ kn ∧ shiftL ns e.1 e.2 (-1) ∈ kn) ∧ ValidK ns (kn ++ [e.1]) es
/-- the number of an entry, behind fs -/
def numE (ns : List Int) (fs : List (List Int × Nat)) (e : Ent) : Nat := max ((dep fs (shiftL ns e.1 e.2 1)).getD 0) ((dep fs (shiftL ns e.1 e.2 (-1))).getD 0) + 1
def numsL (ns : List Int) : List (List Int × Nat) → List Ent → List (List Int × Nat)
  | _, [] => []
  | fs, e :: es => (e.1, numE ns fs e) :: numsL ns (fs ++ [(e.1, numE ns fs e)]) es
theorem nums_fst (ns : List Int) : ∀ (es : List Ent) (fs : List (List Int × Nat)), (numsL ns fs es).map (·.1) = es.map (·.1)
  | [], _ => rfl
  | e :: es, fs => by
    show e.1 :: (numsL ns _ es).map (·.1) = e.1 :: es.map (·.1)
    rw [nums_fst ns es]
theorem nums_len (ns : List Int) (es : List Ent) (fs : List (List Int × Nat)) : (numsL ns fs es).length = es.length := by
  have := congrArg List.length (nums_fst ns es fs)
  simpa using this
theorem nums_app (ns : List Int) : ∀ (es es2 : List Ent) (fs : List (List Int × Nat)), numsL ns fs (es ++ es2) = numsL ns fs es ++ numsL ns (fs ++ numsL ns fs es) es2
  | [], es2, fs => by
    show numsL ns fs es2 = [] ++ numsL ns (fs ++ []) es2
    rw [List.append_nil]
    rfl
  | e :: es, es2, fs => by
    show (e.1, numE ns fs e) :: numsL ns _ (es ++ es2) = (e.1, numE ns fs e) :: numsL ns _ es ++ numsL ns (fs ++ (e.1, numE ns fs e) :: numsL ns _ es) es2
    rw [nums_app ns es es2, List.cons_append, List.append_assoc]
    rfl
theorem dep_key {fs : List (List Int × Nat)} {q : List Int} (h : q ∈ keysL fs) : ∃ d, dep fs q = some d := by
  have := dep_isSome (fs := fs) (p := q)
  rw [decide_eq_true h] at this
  exact Option.isSome_iff_exists.mp this
theorem keys_one (e : List Int) (d : Nat) (fs : List (List Int × Nat)) : keysL (fs ++ [(e, d)]) = keysL fs ++ [e] := by
  unfold keysL
  rw [List.map_append]
  rfl
theorem keys_nums (ns : List Int) (fs : List (List Int × Nat)) (es : List Ent) : keysL (fs ++ numsL ns fs es) = keysL fs ++ es.map (·.1) := by
  unfold keysL
  rw [List.map_append, nums_fst]
theorem valid_app {ns : List Int} : ∀ {a b : List Ent} {kn : List (List Int)}, ValidK ns kn (a ++ b) ↔ ValidK ns kn a ∧ ValidK ns (kn ++ a.map (·.1)) b
  | [], b, kn => by
    show ValidK ns kn b ↔ True ∧ ValidK ns (kn ++ []) b
    rw [List.append_nil]
    exact ⟨fun h => ⟨True.intro, h⟩, fun h => h.2⟩
  | e :: a, b, kn => by
    show _ ∧ ValidK ns (kn ++ [e.1]) (a ++ b) ↔ (_ ∧ ValidK ns (kn ++ [e.1]) a) ∧ ValidK ns (kn ++ (e.1 :: a.map (·.1))) b
    rw [valid_app (a := a) (b := b), List.append_assoc, List.singleton_append]
    exact ⟨fun ⟨h1, h2, h3⟩ => ⟨⟨h1, h2⟩, h3⟩, fun ⟨⟨h1, h2⟩, h3⟩ => ⟨h1, h2, h3⟩⟩
theorem valid_nod {ns : List Int} : ∀ {es : List Ent} {kn : List (List Int)}, kn.Nodup → ValidK ns kn es → (kn ++ es.map (·.1)).Nodup
  | [], kn, h, _ => by
    show (kn ++ []).Nodup
    rw [List.append_nil]
    exact h
  | e :: es, kn, h, v => by
    obtain ⟨⟨_, _, hn, _⟩, v2⟩ := v
    have h2 : (kn ++ [e.1]).Nodup := List.nodup_append.mpr ⟨h, by simp, fun x hx y hy => by rw [List.mem_singleton.mp hy]; exact fun z => hn (z ▸ hx)⟩
    have := valid_nod h2 v2
    rw [List.append_assoc] at this
    exact this
theorem valid_seat {ns : List Int} : ∀ {es : List Ent} {kn : List (List Int)}, ValidK ns kn es → ∀ e ∈ es, SeatOk ns e.1 ∧ e.2.length = ns.length
  | [], _, _, e, he => nomatch he
  | x :: es, kn, ⟨⟨h1, h2, _⟩, v⟩, e, he => by
    rcases List.mem_cons.mp he with rfl | h
    · exact ⟨h1, h2⟩
    · exact valid_seat v e h
theorem valid_at {ns : List Int} : ∀ {es : List Ent} {kn : List (List Int)} {i : Nat} {e : Ent}, ValidK ns kn es → es[i]? = some e → SeatOk ns e.1 ∧ e.2.length = ns.length ∧ e.1 ∉ kn ++ (es.take i).map (·.1) ∧ shiftL ns e.1 e.2 1 ∈ kn ++ (es.take i).map (·.1) ∧ shiftL ns e.1 e.2 (-1) ∈ kn ++ (es.take i).map (·.1)
  | [], _, _, _, _, h => by simp at h
  | x :: es, kn, 0, e, ⟨h, _⟩, he => by
    obtain rfl : x = e := Option.some.inj he
    show _ ∧ _ ∧ x.1 ∉ kn ++ [] ∧ _ ∈ kn ++ [] ∧ _ ∈ kn ++ []
    rw [List.append_nil]
    exact h
  | x :: es, kn, i + 1, e, ⟨_, v⟩, he => by
    have := valid_at (i := i) v (by simpa using he)
    rw [List.append_assoc] at this
    exact this
theorem nums_at (ns : List Int) : ∀ {es : List Ent} {fs : List (List Int × Nat)} {i : Nat} {e : Ent}, es[i]? = some e → (numsL ns fs es)[i]? = some (e.1, numE ns (fs ++ (numsL ns fs es).take i) e)
  | [], _, _, _, h => by simp at h
  | x :: es, fs, 0, e, he => by
    obtain rfl : x = e := Option.some.inj he
    show some (x.1, numE ns fs x) = some (x.1, numE ns (fs ++ []) x)
    rw [List.append_nil]
  | x :: es, fs, i + 1, e, he => by
    have := nums_at ns (es := es) (fs := fs ++ [(x.1, numE ns fs x)]) (i := i) (e := e) (by simpa using he)
    show (numsL ns (fs ++ [(x.1, numE ns fs x)]) es)[i]? = some (e.1, numE ns (fs ++ (x.1, numE ns fs x) :: (numsL ns (fs ++ [(x.1, numE ns fs x)]) es).take i) e)
    rw [this, List.append_assoc]
    rfl
/-- an entry as data -/
def dE (e : List Int × List Int) : PyData := .tuple [iT e.1, iT e.2]
theorem oT_ints (ps : List Int) : oT (iT ps) = some (ps.map some) := by
  show some ((ps.map PyData.int).map intD) = _
  rw [List.map_map]
  rfl
theorem ent_valid {ns : List Int} {fs : List (List Int × Nat)} {kn : List (List Int)} {e : List Int × List Int} (hk : keysL fs = kn) (h : SeatOk ns e.1 ∧ e.2.length = ns.length ∧ e.1 ∉ kn ∧ shiftL ns e.1 e.2 1 ∈ kn ∧ shiftL ns e.1 e.2 (-1) ∈ kn) : entO ns fs (dE e) = some (e.1, numE ns fs e) := by
  obtain ⟨sp, lc, hn, hx, hy⟩ := h
  subst hk
  show entD ns fs (iT e.1) (iT e.2) = _
  have is : isSeatO ns (oT (iT e.1)) = true := by rw [oT_ints]; exact isSeat_ok sp
  have ic : isCallO ns (oT (iT e.2)) = true := by rw [oT_ints]; exact isCall_ok lc
  have d0 := dep_none hn
  obtain ⟨x, hx⟩ := Option.isSome_iff_exists.mp (show (dep fs (shiftL ns e.1 e.2 1)).isSome = true by rw [dep_isSome]; exact decide_eq_true hx)
  obtain ⟨y, hy⟩ := Option.isSome_iff_exists.mp (show (dep fs (shiftL ns e.1 e.2 (-1))).isSome = true by rw [dep_isSome]; exact decide_eq_true hy)
  unfold entD numE
  rw [if_pos is, if_pos ic, intsD_is, intsD_is, d0, hx, hy]
  rfl
theorem goP_valid {ns : List Int} {tss : List (List Int)} : ∀ {es : List (List Int × List Int)} {kn : List (List Int)} {zs : List (List Int × Nat)}, keysL (atD 0 tss ++ zs) = kn → ValidK ns kn es → goP ns tss (es.map dE) zs = .inr (zs ++ numsL ns (atD 0 tss ++ zs) es)
  | [], _, zs, _, _ => by
    show Sum.inr zs = Sum.inr (zs ++ [])
    rw [List.append_nil]
  | e :: es, kn, zs, hk, ⟨h, v⟩ => by
    show (match entO ns (atD 0 tss ++ zs) (dE e) with
      | some z => goP ns tss (es.map dE) (zs ++ [z])
      | none => .inl (zs.length : Int)) = _
    rw [ent_valid hk h]
    show goP ns tss (es.map dE) (zs ++ [(e.1, numE ns (atD 0 tss ++ zs) e)]) = _
    rw [goP_valid (es := es) (kn := kn ++ [e.1]) (by rw [← List.append_assoc]; unfold keysL; rw [List.map_append]; unfold keysL at hk; rw [hk]; rfl) v, ← List.append_assoc, List.append_assoc zs]
    rfl

theorem Paired.monoT {R : Hp → V → Ent → Prop} (m : ∀ (H H2 : Hp) (v : V) (a : Ent), (∀ c xs, H c = some (.tup xs) → H2 c = some (.tup xs)) → R H v a → R H2 v a) {H H2 : Hp} {xs : List V} {es : List Ent} (e : ∀ c zs, H c = some (.tup zs) → H2 c = some (.tup zs)) (h : Paired (R H) xs es) : Paired (R H2) xs es := paired_mono (fun v a q => m H H2 v a e q) h
theorem callF_big {f : Int} (fb : -(2 ^ 64) < f ∧ f < 2 ^ 64) : ∀ {ns ps xs : List Int}, (∀ n ∈ ns, n ≤ 10 ^ 21) → (∀ n ∈ ns, 1 ≤ n) → SeatOk ns ps → SeatOk ns xs → ∀ c ∈ callF f ns ps xs, c.natAbs ≤ 10 ^ 42
  | [], _, _, _, _, _, _, c, hc => by
    unfold callF at hc
    exact nomatch hc
  | n :: ns, p :: ps, x :: xs, nb, o, sp, sx, c, hc => by
    rcases List.mem_cons.mp (show c ∈ (p - x + f * n) :: callF f ns ps xs from hc) with rfl | hc
    · have h1 := nb n List.mem_cons_self
      have h2 := o n List.mem_cons_self
      obtain ⟨p0, p1⟩ := sp.1
      obtain ⟨x0, x1⟩ := sx.1
      have m : (f * n).natAbs < 2 ^ 64 * 10 ^ 22 := by
        rw [Int.natAbs_mul]
        exact Nat.mul_lt_mul'' (by omega) (by omega)
      have big : (2 : Nat) ^ 64 * 10 ^ 22 + 10 ^ 22 < 10 ^ 42 := by decide
      omega
    · exact callF_big fb (fun n hn => nb n (List.mem_cons_of_mem _ hn)) (fun n hn => o n (List.mem_cons_of_mem _ hn)) sp.2 sx.2 c hc
section
variable {P : Program} {w : World} {K : PySem.W.Frag} {mg : Str → Option Value} {base : Heap}
def sp_law_plan : Sp := fun vs H Q _ => ∃ (s l g : Addr) (ns : List Int) (tss : List (List Int)), vs = [.ref s, .ref l, .ref g] ∧ Src H s ∧ H l = some (.lst (ns.map V.int)) ∧ l ≠ s ∧ SzOk ns ∧ (∀ n ∈ ns, n ≤ 10 ^ 21) ∧ RowsAt H g tss ∧ g ≠ s ∧ tss ≠ [] ∧ tss.length ≤ 300 ∧ (∀ t ∈ tss, SeatOk ns t) ∧
  ∀ (q : Addr) (es : List Ent) (xs : List V) H2, H q = none → H2 q = some (.lst xs) → Paired (PdE H2) xs es → es.length ≤ 10 → ValidK ns tss es → (∀ e ∈ es, ∀ c ∈ e.2, c.natAbs ≤ 10 ^ 42) → XB s H H2 → Src H2 s → Q (.ref q) H2
theorem ok_law_plan (T : TX K mg) : FnOk P w K mg base CX0 3 T.f_law_plan T.fd_law_plan ["_law_source_here", "_law_rings_here", "_law_goals_here"] sp_law_plan := by
  refine T.F_law_plan.ok sc_law_plan (fun vs H Q E h => ?_) (fun cdv A outer s H vs Q E hr h => ?_)
  · obtain ⟨s, l, g, ns, tss, rfl, _⟩ := h
    rfl
  · obtain ⟨s, l, g, ns, tss, rfl, src, hl, nls, ok, nb, ⟨gs, hg, rg⟩, ngs, ne, lt, sks, k⟩ := h
    refine ⟨_, (pss_cons (ps_set (i := 3) sc_law_plan.nd rfl (Or.inr rfl) (pe_callTy call_list_of (by rfl) T.z_list (by decide +kernel) (pa_cons (pv 2) pa_nil))) (pss_cons (ps_set (i := 4) sc_law_plan.nd rfl (Or.inl rfl) (pe_lst pa_nil)) (pss_cons (ps_for PassesOwn.never rfl (pi_range1 rfl T.z_range (pa_cons (pe_op op_add pe_int (pe_call (ok_law_draw T) hr rfl T.m_law_draw T.F_law_draw.kp T.b_law_draw .nil pass0 (pa_cons (pv 0) (pa_cons pe_int pa_nil)))) pa_nil)) (pg_name (i := 5) sc_law_plan.nd rfl (Or.inl rfl)) (pss_cons (ps_asg (pe_lc (own := [("_law_k", 12)]) (g := (gName 12)) rfl sc_law_plan.nd (pi_range1 rfl T.z_range (pa_cons pe_int pa_nil)) (blkOk_by (N := N_law_plan) (sc := defScope s_law_plan) (by decide +kernel)) (fun _ _ _ _ _ => (pg_name (i := 12) sc_law_plan.nd rfl (Or.inl rfl))) (fun _ _ _ _ _ => pts_nil) (fun _ _ _ _ _ => (pe_ix (r := rIxL K) ix_list (pv 3) (pe_call (ok_law_draw T) hr rfl T.m_law_draw T.F_law_draw.kp T.b_law_draw .nil pass0 (pa_cons (pv 0) (pa_cons (pe_callB (r := rLenQ K) call_len_seq (by rfl) T.z_len (by decide +kernel) (pa_cons (pv 3) pa_nil)) pa_nil))) (fun _ _ => rfl)))) (pg_lst rfl (pgs_cons (pg_name (i := 6) sc_law_plan.nd rfl (Or.inl rfl)) (pgs_cons (pg_name (i := 7) sc_law_plan.nd rfl (Or.inl rfl)) pgs_nil)))) (pss_cons (ps_setLc (own := [("_law_spot", 9)]) (g := (gName 9)) (i := 8) rfl sc_law_plan.nd rfl rfl (sw_true rfl rfl rfl (by decide +kernel)) (pi_list (pe_call (ok_law_middles T) (hr.mono (by decide)) rfl T.m_law_middles T.F_law_middles.kp T.b_law_middles .nil pass0 (pa_cons (pv 1) (pa_cons (pv 6) (pa_cons (pv 7) pa_nil))))) (blkOk_by (N := N_law_plan) (sc := defScope s_law_plan) (by decide +kernel)) (fun _ _ _ _ _ => (pg_name (i := 9) sc_law_plan.nd rfl (Or.inl rfl))) (fun _ _ _ _ _ => (pts_one (pt_cmpR (r := rNotInD K) (op_notInD (u65 hr)) (pv 9) (pv 3) rfl))) (fun _ _ _ _ _ => (pv 9))) (pss_one (ps_if (pt_cmpR (r := rNeD K) (op_neD hr.units) (pv 8) (pe_lst pa_nil) (nomark _)) (pss_cons (ps_set (i := 9) sc_law_plan.nd rfl (Or.inl rfl) (pe_ix ix_list (pv 8) (pe_call (ok_law_draw T) hr rfl T.m_law_draw T.F_law_draw.kp T.b_law_draw .nil pass0 (pa_cons (pv 0) (pa_cons (pe_callB call_len_seq (by rfl) T.z_len (by decide +kernel) (pa_cons (pv 8) pa_nil)) pa_nil))) (fun _ _ => rfl))) (pss_cons (ps_set (i := 10) sc_law_plan.nd rfl (Or.inr rfl) (pe_ix ix_list (pe_lst (pa_cons pe_int (pa_cons pe_int (pa_cons pe_int (pa_cons (pe_un un_neg pe_int) (pa_cons (pe_op op_pow pe_int pe_int) pa_nil)))))) (pe_call (ok_law_draw T) hr rfl T.m_law_draw T.F_law_draw.kp T.b_law_draw .nil pass0 (pa_cons (pv 0) (pa_cons pe_int pa_nil))) (fun _ _ => rfl))) (pss_cons (ps_setLc (own := [("_law_one", 13), ("_law_place", 14), ("_law_size", 15)]) (g := (gTup K 3 (gCons (gName 13) (gCons (gName 14) (gCons (gName 15) gNil))))) (i := 11) rfl sc_law_plan.nd rfl rfl (sw_true rfl rfl rfl (by decide +kernel)) (CZ.pi_z3 (fl := [true, true, false]) rfl (by rfl) T.z_zip (pa_cons (pv 6) (pa_cons (pv 9) (pa_cons (pv 1) pa_nil)))) (blkOk_by (N := N_law_plan) (sc := defScope s_law_plan) (by decide +kernel)) (fun _ _ _ _ _ => (pg_tup rfl (pgs_cons (pg_name (i := 13) sc_law_plan.nd rfl (Or.inl rfl)) (pgs_cons (pg_name (i := 14) sc_law_plan.nd rfl (Or.inl rfl)) (pgs_cons (pg_name (i := 15) sc_law_plan.nd rfl (Or.inl rfl)) pgs_nil))))) (fun _ _ _ _ _ => pts_nil) (fun _ _ _ _ _ => (pe_op op_add (pe_op op_sub (pv 13) (pv 14)) (pe_op op_mulI (pv 10) (pv 15))))) (pss_cons (ps_expr (pe_bm PySem.F.plainAttrs_list PySem.F.slot_list_append PySem.F.type_list_append mt_append (pv 4) (pa_cons (pe_tup (pa_cons (pv 9) (pa_cons (pe_callTy call_tuple_of (by rfl) T.z_tuple (by decide +kernel) (pa_cons (pv 11) pa_nil)) pa_nil))) pa_nil))) (pss_one (ps_expr (pe_bm PySem.F.plainAttrs_list PySem.F.slot_list_append PySem.F.type_list_append mt_append (pv 3) (pa_cons (pv 9) pa_nil)))))))) pss_nil))))) (pss_one (ps_ret (pv 4)))))), ?_⟩
    have lg : gs.length = tss.length := Paired.length rg
    have l0 := List.length_pos_iff.mpr ne
    refine ⟨_, rfl, g, gs, rfl, .inl (SqL.of hg), ?_⟩
    (intro kl nkl; generalize hGkl : upd _ kl _ = H1; have eH1 := exG hGkl nkl; have hkl := atG hGkl; clear hGkl)
    have nks : kl ≠ s := src.ne nkl
    dsimp only [gName]
    refine ⟨slen rfl, ?_⟩
    (intro el nel; generalize hGel : upd _ el _ = H2; have eH2 := exG hGel nel; have hel := atG hGel; clear hGel)
    have E2 := ext eH1 eH2
    have nel0 : H el = none := Evl.fresh_back eH1 nel
    have nes : el ≠ s := src.ne nel0
    have nke : kl ≠ el := ne_of_none hkl nel
    dsimp only [gName]
    refine ⟨_, rfl, s, 9, rfl, src.mono E2, by decide, by decide +kernel, fun r0 H3 r00 r01 xb3 src3 => ⟨_, _, rfl, rfl, _, rfl, by omega, by omega, ?_⟩⟩
    have X3 : XB s H H3 := (XB.of E2).trans xb3
    have rg2 : RowsR H2 gs tss := rg.mono E2
    refine for_it walk_range (fun i σ Hx => ∃ (ys xs : List V) (es : List Ent) (y5 y6 y7 y8 y9 y10 y11 y12 y13 y14 y15 : Option V), σ = [some (.ref s), some (.ref l), some (.ref g), some (.ref kl), some (.ref el), y5, y6, y7, y8, y9, y10, y11, y12, y13, y14, y15] ∧ XB s H Hx ∧ Src Hx s ∧ Hx kl = some (.lst ys) ∧ RowsR Hx ys (tss ++ es.map (·.1)) ∧ Hx el = some (.lst xs) ∧ Paired (PdE Hx) xs es ∧ es.length ≤ i ∧ ValidK ns tss es ∧ ∀ e ∈ es, ∀ c ∈ e.2, c.natAbs ≤ 10 ^ 42) ⟨gs, [], [], _, _, _, _, _, _, _, _, _, _, _, rfl, X3, src3, xb3 _ _ nks (eH2 _ _ hkl), by rw [List.map_nil, List.append_nil]; exact rg2.monoT fun _ _ z => tup_xb (src.mono E2) z xb3, xb3 _ _ nes hel, .nil, Nat.le_refl _, True.intro, (fun e he => nomatch he)⟩ (fun _ _ _ _ _ => True.intro) ?_ ?_
    · clear hkl hel rg2 xb3 eH1 eH2 E2 X3
      rintro i x σ _ Hx hi ⟨ys, xs, es, y5, y6, y7, y8, y9, y10, y11, y12, y13, y14, y15, rfl, xb, src, hk, rk, he, pe, le, va, cb⟩ ⟨rfl, hx⟩
      have hi2 : i < (2 + r0).toNat := hi
      have lys : ys.length = tss.length + es.length := by rw [Paired.length rk, List.length_append, List.length_map]
      dsimp only [gName]
      have kne : tss ++ es.map (·.1) ≠ [] := fun z => ne (List.append_eq_nil_iff.mp z).1
      have kls : (tss ++ es.map (·.1)).length ≤ 310 := by
        rw [List.length_append, List.length_map]
        omega
      have ksk : ∀ t ∈ tss ++ es.map (·.1), SeatOk ns t := fun t ht => by
        rcases List.mem_append.mp ht with h | h
        · exact sks t h
        · obtain ⟨e, h2, rfl⟩ := List.mem_map.mp h
          exact (valid_seat va e h2).1
      have lyk : ys.length = (tss ++ es.map (·.1)).length := Paired.length rk
      generalize hKN : tss ++ es.map (·.1) = KN at *
      refine ⟨_, rfl, by decide, by decide, fun D hD => ?_⟩
      have Ds : D ≠ s := src.ne hD
      have D0 : H D = none := xb.back Ds hD
      refine lc_it walk_range (fun j Hy => ∃ (zs : List V) (rows : List (List Int)), Hy D = some (.lst zs) ∧ RowsR Hy zs rows ∧ rows.length = j ∧ (∀ p ∈ rows, p ∈ KN) ∧ XB s Hx Hy ∧ Src Hy s) ⟨[], [], upd_same, .nil, rfl, (fun _ h => nomatch h), XB.of (exn hD), src.mono (exn hD)⟩ (fun _ _ _ _ => True.intro) ?_ ?_
      · rintro j x _ Hy hj ⟨zs, rows, hDy, rz, lz, mem, xy, srcy⟩ ⟨rfl, hx⟩
        have hky := xy _ _ nks hk
        refine ⟨rfl, ?_⟩
        refine ⟨_, rfl, _, rfl, _, rfl, kl, ys, rfl, .inl (SqL.of hky), s, (ys.length : Int), rfl, srcy, by have := List.length_pos_iff.mpr kne; omega, Nat.lt_of_le_of_lt (show _ ≤ 1000 by omega) (by decide +kernel), fun r Hz r0 r1 xz srcz => ?_⟩
        obtain ⟨v, gv, mv⟩ := atI_nat (xs := ys) r0 (by omega)
        obtain ⟨pa, p, rfl, hp, hpa⟩ := mem_rows (rk.monoT fun _ _ z => tup_xb srcy (tup_xb src z xy) xz) mv
        have hDz := xz _ _ Ds hDy
        have tp : ∀ c ws, Hz c = some (.tup ws) → upd Hz D (.lst (zs ++ [.ref pa])) c = some (.tup ws) := fun c ws z => tup_pshL hDz z
        refine ⟨kl, _, _, _, rfl, rfl, SqL.of (xz _ _ nks hky), gv, zs, hDz, ?_, zs ++ [.ref pa], rows ++ [p], upd_same, RowsR.snoc (tp _ _ hpa) ((rz.monoT fun _ _ z => tup_xb srcy z xz).monoT tp), by rw [List.length_append, lz]; rfl, fun t ht => ?_, (xy.trans xz).app hD, srcz.app Ds⟩
        · rw [Paired.length rz, lz]
          exact Nat.lt_of_lt_of_le (show j < 10 by have : j < 2 := hj; omega) (by decide)
        · rcases List.mem_append.mp ht with h | h
          · exact mem t h
          · rw [List.mem_singleton.mp h]
            exact hp
      rintro H4 ⟨zs, rows, hD4, rz, lz, mem, xb4, src4⟩
      replace lz : rows.length = 2 := lz
      obtain ⟨p, q, rfl⟩ : ∃ p q, rows = [p, q] := by
        match rows, lz with
        | [p, q], _ => exact ⟨p, q, rfl⟩
      obtain ⟨pa, qa, rfl, hpa, hqa⟩ : ∃ pa qa, zs = [.ref pa, .ref qa] ∧ H4 pa = some (.tup (p.map V.int)) ∧ H4 qa = some (.tup (q.map V.int)) := by
        cases rz with
        | cons h t =>
          cases t with
          | cons h2 t2 =>
            cases t2
            obtain ⟨a, rfl, ha⟩ := h
            obtain ⟨b, rfl, hb⟩ := h2
            exact ⟨a, b, rfl, ha, hb⟩
      have pin := mem p List.mem_cons_self
      have qin := mem q (List.mem_cons_of_mem _ List.mem_cons_self)
      have skp := ksk p pin
      have skq := ksk q qin
      refine ⟨D, _, rfl, SqL.of hD4, rfl, _, _, rfl, _, _, rfl, rfl, ?_⟩
      have hk4 := xb4 _ _ nks hk
      have hl4 := xb4 _ _ nls (xb _ _ nls hl)
      have rk4 : RowsR H4 ys KN := rk.monoT fun _ _ z => tup_xb src z xb4
      have he4 := xb4 _ _ nes he
      have pe4 := Paired.monoT pde_mono (fun _ _ z => tup_xb src z xb4) pe
      have X4 := xb.trans xb4
      clear rz hD4 hD
      show tSeq _ _ _ [_, _, _, _, _, _, _, _, _, _, _, _, _, _, _, _] _
      refine ⟨_, rfl, _, rfl, _, rfl, l, pa, qa, ns, p, q, rfl, hl4, ok, hpa, skp, hqa, skq, fun mq ms H5 e5 nmq ⟨mxs, hmq, rm⟩ lms hms => ⟨mq, rfl, ⟨_, SqL.of hmq⟩, fun D2 hD2 => ?_⟩⟩
      have lmx : mxs.length = ms.length := Paired.length rm
      have hk5 := e5 _ _ hk4
      have rk5 := rk4.mono e5
      refine lc_filt (walk_list (xs := mxs)) (mxs.zip ms) (fun z => decide (z.2 ∉ KN)) (fun z => z.1) (by rw [List.length_zip]; omega) (by omega) hD2 (fun Hx ex => SqL.of (ex _ _ hmq)) ?_ ?_
      · rintro i x ⟨z1, z2⟩ _ Hx R S hz ex ⟨rfl, hx⟩ kR kS
        obtain ⟨hz1, hz2⟩ := zip_at2 hz
        obtain ⟨o, r, hp, rfl, hr2⟩ := rm.get hx
        obtain rfl : o = z2 := Option.some.inj (hp.symm.trans hz2)
        obtain rfl : V.ref r = z1 := Option.some.inj (hx.symm.trans hz1)
        refine ⟨rfl, _, rfl, _, rfl, iT o, KN.map iT, dp_ints (ex _ _ hr2), .lst (SqL.of (ex _ _ hk5)) (rk5.mono ex).dp, (sh_ints (n := 59) _).ok, (sh_rows (n := 58) _).ok, ?_⟩
        rw [any_rows]
        refine ⟨_, rfl, ?_⟩
        by_cases c : o ∈ KN
        · exact itf (by rw [decide_eq_true c]; rfl) (kS _ exr (decide_eq_false (not_not_intro c)))
        · exact itt (by rw [decide_eq_false c]; rfl) ⟨_, rfl, kR _ _ exr (decide_eq_true c) rfl⟩
      intro H6 e6 hD6
      have rm6 : RowsR H6 (((mxs.zip ms).filter fun z => decide (z.2 ∉ KN)).map fun z => z.1) (ms.filter fun o => decide (o ∉ KN)) := RowsR.filt (fun o => decide (o ∉ KN)) (rm.mono e6)
      generalize (((mxs.zip ms).filter fun z => decide (z.2 ∉ KN)).map fun z => z.1) = us at hD6 rm6
      have mfs : ∀ m ∈ ms.filter (fun o => decide (o ∉ KN)), MidU ns p q ns.length m ∧ m ∉ KN := fun m hm => ⟨hms m (List.mem_filter.mp hm).1, of_decide_eq_true (List.mem_filter.mp hm).2⟩
      have lfs : (ms.filter fun o => decide (o ∉ KN)).length ≤ 16 := Nat.le_trans (List.length_filter_le _ _) lms
      generalize ms.filter (fun o => decide (o ∉ KN)) = fm at *
      have lus : us.length = fm.length := Paired.length rm6
      have e56 := ext e5 e6
      have D2s : D2 ≠ s := (src4.mono e5).ne hD2
      have src6 := src4.mono e56
      dsimp only [gName]
      refine ⟨_, rfl, slen rfl, ?_⟩
      (intro nl nnl; generalize hGnl : upd _ nl _ = H7; have eH7 := exG hGnl nnl; have hnl := atG hGnl; clear hGnl)
      have e67 := ext e56 eH7
      refine ⟨_, _, .lst (SqL.of (eH7 _ _ hD6)) (rm6.mono eH7).dp, .lst (SqL.of hnl) (RowsR.dp (hss := []) .nil), (sh_rows (n := 58) _).ok, (sh_rows (n := 58) []).ok, _, rfl, ?_⟩
      have hD7 := eH7 _ _ hD6
      have rm7 := rm6.mono eH7
      have src7 := src6.mono eH7
      have hk7 := eH7 _ _ (e6 _ _ hk5)
      have rk7 : RowsR H7 ys KN := (rk5.mono e6).mono eH7
      have he7 := e67 _ _ he4
      have pe7 : Paired (PdE H7) xs es := Paired.monoT pde_mono (fun _ _ z => e67 _ _ z) pe4
      have hl7 := e67 _ _ hl4
      have hpa7 := e67 _ _ hpa
      have X7 := X4.trans (XB.of e67)
      clear hpa hqa hl4 he4 pe4 rk5 hk5 rm6 hD6 hnl hmq rm hk4 rk4 e6 e5 eH7 X4 src6 hD2
      by_cases cf : fm = []
      · refine itf (by rw [cf]; rfl) ?_
        exact ⟨ys, xs, es, _, _, _, _, _, _, _, _, _, _, _, rfl, X7, src7, hk7, by rw [hKN]; exact rk7, he7, pe7, by omega, va, cb⟩
      refine itt (eqv_ne' cf) ?_
      have lf0 := List.length_pos_iff.mpr cf
      refine ⟨_, rfl, _, rfl, _, rfl, D2, us, rfl, .inl (SqL.of hD7), s, (us.length : Int), rfl, src7, by omega, Nat.lt_of_le_of_lt (show _ ≤ 1000 by omega) (by decide +kernel), fun r H8 r80 r81 xb8 src8 => ?_⟩
      obtain ⟨v, gv, mv⟩ := atI_nat (xs := us) r80 (by omega)
      obtain ⟨ma, m, rfl, hm, hma⟩ := mem_rows (rm7.monoT fun _ _ z => tup_xb src7 z xb8) mv
      obtain ⟨hmid, mout⟩ := mfs m hm
      refine ⟨D2, _, _, _, rfl, rfl, SqL.of (xb8 _ _ D2s hD7), gv, ?_⟩
      dsimp only [gName]
      show tSeq _ _ _ [_, _, _, _, _, _, _, _, _, _, _, _, _, _, _, _] _
      refine ⟨_, rfl, _, _, rfl, rfl, ⟨by decide, by decide, by decide⟩, slen rfl, ?_⟩
      (intro fl nfl; generalize hGfl : upd _ fl _ = H9; have eH9 := exG hGfl nfl; have hfl := atG hGfl; clear hGfl)
      have fls : fl ≠ s := src8.ne nfl
      refine ⟨_, rfl, s, 5, rfl, src8.mono eH9, by decide, by decide +kernel, fun r2 Ha ra0 ra1 xba srca => ?_⟩
      obtain ⟨v, gv2, mv2⟩ := atI_nat (xs := [V.int 0, V.int 0, V.int 1, V.int (-3), V.int (10 ^ 15)]) ra0 ra1
      obtain ⟨f, rfl, fb⟩ : ∃ f : Int, v = .int f ∧ (-(2 ^ 64) < f ∧ f < 2 ^ 64) := by
        simp only [List.mem_cons, List.not_mem_nil, or_false] at mv2
        rcases mv2 with rfl | rfl | rfl | rfl | rfl
        all_goals exact ⟨_, rfl, by decide, by decide⟩
      refine ⟨fl, _, _, _, rfl, rfl, SqL.of (xba _ _ fls hfl), gv2, ?_⟩
      obtain ⟨skm, lcf, sh1, sh2⟩ := mid_call f hmid skp skq
      have xa := xb8.trans ((XB.of eH9).trans xba)
      have hka := xa _ _ nks hk7
      have rka : RowsR Ha ys KN := rk7.monoT fun _ _ z => tup_xb src7 z xa
      have hea := xa _ _ nes he7
      have pea : Paired (PdE Ha) xs es := Paired.monoT pde_mono (fun _ _ z => tup_xb src7 z xa) pe7
      have hla := xa _ _ nls hl7
      have hpaa := tup_xb src7 hpa7 xa
      have hmaa := tup_xb src8 hma ((XB.of eH9).trans xba)
      have Xa := X7.trans xa
      clear hk7 rk7 he7 pe7 hl7 hpa7 hma X7 xa hfl hD7 rm7 gv gv2 mv mv2 src7 src8 xb8 xba eH9
      dsimp only [gName]
      show tSeq _ _ _ [_, _, _, _, _, _, _, _, _, _, _, _, _, _, _, _] _
      have lens := lens3 (n := ns.length) (xs := p.map V.int) (ys := m.map V.int) (us := ns.map V.int) (by rw [List.length_map, skp.len]) (by rw [List.length_map, skm.len]) (by rw [List.length_map])
      have l4 := ok.le
      refine ⟨_, rfl, _, rfl, _, rfl, [pa, ma, l], rfl, rfl, all3 (sqT hpaa) (sqT hmaa) (sqL hla), fun D3 hD3 => ?_⟩
      refine lc_vals (CZ.walk_rows (xss := [p.map V.int, m.map V.int, ns.map V.int]) (n := ns.length) lens) ((callF f ns p m).map V.int) (by rw [List.length_map, lcf]) (by omega) hD3 (fun H3 e => .cons (sqT (e _ _ hpaa)) (.cons (sqT (e _ _ hmaa)) (.cons (sqL (e _ _ hla)) .nil))) ?_ (gmono_tup (gmono_cons gmono_name (gmono_cons gmono_name (gmono_cons gmono_name gmono_nil)))) ?_
      · intro i y H3 H4 R hi e yy kk
        obtain ⟨Ta, a, x, n, rfl, hT, rfl, ha, hx, hn⟩ := yints3 yy
        refine ⟨Ta, _, rfl, SqT.of upd_same, rfl, _, _, rfl, _, _, rfl, _, _, rfl, rfl, rfl, ?_⟩
        refine ⟨_, rfl, _, rfl, _, _, rfl, rfl, _, rfl, _, rfl, _, _, rfl, rfl, CMul.ok (.inl fb), _, _, rfl, rfl, kk _ _ (exn hT) ?_⟩
        rw [List.getElem?_map, callF_get f hn ha hx]
        rfl
      intro Hb eb hDb
      dsimp only [gName]
      show tSeq _ _ _ [_, _, _, _, _, _, _, _, _, _, _, _, _, _, _, _] _
      have heb := eb _ _ hea
      refine ⟨_, rfl, .inl ⟨rfl, _, SqL.of heb⟩, _, rfl, _, rfl, D3, _, rfl, .inl ⟨SqL.of hDb, ?_⟩⟩
      (intro ca nca; generalize hGca : upd _ ca _ = Hc; have eHc := exG hGca nca; have hca := atG hGca; clear hGca)
      refine ⟨slen rfl, ?_⟩
      (intro tu ntu; generalize hGtu : upd _ tu _ = Hd; have eHd := exG hGtu ntu; have htu := atG hGtu; clear hGtu)
      have ebd := ext eb (ext eHc eHd)
      have hed := ebd _ _ hea
      have hkd := ebd _ _ hka
      have lxs : xs.length ≤ 100 := by
        rw [Paired.length pe]
        omega
      refine ⟨el, _, _, rfl, rfl, hed, Nat.lt_of_le_of_lt lxs (by decide), ?_⟩
      have tp : ∀ c ws, Hd c = some (.tup ws) → upd Hd el (.lst (xs ++ [.ref tu])) c = some (.tup ws) := fun c ws z => tup_pshL hed z
      have hke : upd Hd el (.lst (xs ++ [.ref tu])) kl = some (.lst ys) := by
        rw [upd_ne nke]
        exact hkd
      dsimp only
      refine ⟨_, rfl, .inl ⟨rfl, _, SqL.of hke⟩, _, rfl, kl, _, _, rfl, rfl, hke, Nat.lt_of_le_of_lt (show ys.length ≤ 1000 by omega) (by decide), ?_⟩
      have tp2 : ∀ c ws, Hd c = some (.tup ws) → upd (upd Hd el (.lst (xs ++ [.ref tu]))) kl (.lst (ys ++ [.ref ma])) c = some (.tup ws) := fun c ws z => tup_pshL hke (tp _ _ z)
      have hmad := tp2 _ _ (ebd _ _ hmaa)
      refine ⟨ys ++ [.ref ma], xs ++ [.ref tu], es ++ [(m, callF f ns p m)], _, _, _, _, _, _, _, _, _, _, _, rfl, ((Xa.trans (XB.of ebd)).app nel0).app nkl, ((srca.mono ebd).app nes).app nks, upd_same, ?_, ?_, ?_, ?_, ?_, ?_⟩
      · rw [List.map_append, ← List.append_assoc, hKN]
        exact RowsR.snoc hmad (rka.monoT fun _ _ z => tp2 _ _ (ebd _ _ z))
      · rw [upd_ne (Ne.symm nke)]
        exact upd_same
      · exact paired_snoc ⟨tu, ma, ca, rfl, tp2 _ _ htu, hmad, tp2 _ _ (eHd _ _ hca)⟩ (Paired.monoT pde_mono (fun _ _ z => tp2 _ _ (ebd _ _ z)) pea)
      · rw [List.length_append, List.length_singleton]
        omega
      · refine valid_app.mpr ⟨va, ?_⟩
        rw [hKN]
        exact ⟨⟨skm, lcf, mout, by rw [sh1]; exact pin, by rw [sh2]; exact qin⟩, True.intro⟩
      · intro e he
        rcases List.mem_append.mp he with h | h
        · exact cb e h
        · rw [List.mem_singleton.mp h]
          exact callF_big fb nb ok.one skp skm
    · rintro σ Hx ⟨ys, xs, es, y5, y6, y7, y8, y9, y10, y11, y12, y13, y14, y15, rfl, xb, src, hk, rk, he, pe, le, va, cb⟩
      have le2 : es.length ≤ (2 + r0).toNat := le
      exact ⟨_, rfl, k el es xs Hx nel0 he pe (by omega) va cb xb src⟩
end

theorem cat_tup {K : PySem.W.Frag} {H : Hp} {Q : VK} {a b : Addr} {xs ys : List V} (ha : H a = some (.tup xs)) (hb : H b = some (.tup ys)) (l : xs.length + ys.length ≤ 2000) (h : ∀ v H5, Ex H H5 → H5 v = some (.tup (xs ++ ys)) → Q (.ref v) H5) : rCatA K (.ref a) (.ref b) H Q := by
  refine ⟨a, b, _, _, rfl, rfl, SqT.of ha, SqT.of hb, Nat.le_trans l (by decide), fun e => ?_, fun _ e => ?_, fun _ _ p hp => ?_⟩
  · refine h b H exr ?_
    rw [e]
    exact hb
  · refine h a H exr ?_
    rw [e, List.append_nil]
    exact ha
  · exact h p _ (exn hp) upd_same
theorem sl_ints {K : PySem.W.Frag} {H : Hp} {Q : VK} {a : Addr} {xs : List V} {lo hi : Option Int} (ha : H a = some (.tup xs)) (h : ∀ v H5, Ex H H5 → H5 v = some (.tup (cutV xs lo hi)) → Q (.ref v) H5) : rSlA K (.ref a) lo hi H Q :=
  ⟨a, _, rfl, SqT.of ha, fun hw => h a H exr (by rw [cut_whole hw]; exact ha), fun _ p hp => h p _ (exn hp) upd_same⟩
/-- a good entry -/
def GE (n : Nat) (d : PyData) : Prop := EntG d ∧ CallB n d
theorem ge_snd {n : Nat} {p : List Int} {d : PyData} (lp : p.length ≤ 5) (hp : ∀ x ∈ p, x.natAbs < 2 ^ 300) (hd : Prt d) (nd : ∀ cs : List Int, d ≠ iT cs) : GE n (.tuple [iT p, d]) := by
  refine ⟨entg_tup (by simp) fun e he => ?_, callB_snd nd⟩
  simp only [List.mem_cons, List.not_mem_nil, or_false] at he
  rcases he with rfl | rfl
  · exact prt_ints (by omega) hp
  · exact hd
theorem ge_fst {n : Nat} {cs : List Int} {d : PyData} (lc : cs.length ≤ 5) (hc : ∀ x ∈ cs, x.natAbs < 2 ^ 300) (hd : Prt d) (nd : ∀ cs : List Int, d ≠ iT cs) : GE n (.tuple [d, iT cs]) := by
  refine ⟨entg_tup (by simp) fun e he => ?_, callB_fst nd⟩
  simp only [List.mem_cons, List.not_mem_nil, or_false] at he
  rcases he with rfl | rfl
  · exact hd
  · exact prt_ints (by omega) hc
theorem ge_list {n : Nat} {a b : PyData} (ha : Prt a) (hb : Prt b) : GE n (.list [a, b]) := by
  refine ⟨entg_list (by simp) fun e he => ?_, callB_list⟩
  simp only [List.mem_cons, List.not_mem_nil, or_false] at he
  rcases he with rfl | rfl
  · exact ha
  · exact hb
theorem prt_true {cs : List Int} (l : cs.length ≤ 5) (h : ∀ x ∈ cs, x.natAbs < 2 ^ 300) : Prt (.tuple (.bool true :: cs.map PyData.int)) := prt_tup (by rw [List.length_cons, List.length_map]; omega) fun d hd => by
  rcases List.mem_cons.mp hd with rfl | hd
  · exact at_bool true
  · exact at_ints h d hd
theorem prt_lints {cs : List Int} (l : cs.length ≤ 5) (h : ∀ x ∈ cs, x.natAbs < 2 ^ 300) : Prt (.list (cs.map PyData.int)) := prt_list (by rw [List.length_map]; omega) (at_ints h)
theorem tupD_eq {e : PyData} {ws : List PyData} (h : tupD e = some ws) : e = .tuple ws := by
  cases e with
  | tuple vs => cases h; rfl
  | _ => cases h
theorem at_endL {α : Type} {xs : List α} (h : xs ≠ []) : ∃ (k : Nat) (v : α), atI xs (-1) = some v ∧ xs[k]? = some v := by
  have e := List.dropLast_concat_getLast h
  have l := L2.atI_last xs.dropLast (xs.getLast h)
  rw [e] at l
  obtain ⟨k, hk⟩ := List.getElem?_of_mem (List.getLast_mem h)
  exact ⟨k, _, l, hk⟩
theorem rows_last {H : Hp} {vs : List V} {tss : List (List Int)} (r : RowsR H vs tss) (ne : tss ≠ []) : ∃ (a : Addr) (t : List Int), atI vs (-1) = some (.ref a) ∧ H a = some (.tup (t.map V.int)) ∧ t ∈ tss := by
  obtain ⟨k, v, h1, h2⟩ := at_endL (xs := vs) (fun z => ne (List.length_eq_zero_iff.mp (by rw [← Paired.length r, z]; rfl)))
  obtain ⟨t, a, ht, rfl, ha⟩ := r.get h2
  exact ⟨a, t, h1, ha, List.mem_of_getElem? ht⟩

theorem seat_abs : ∀ {ns ps : List Int}, SeatOk ns ps → (∀ n ∈ ns, n ≤ 10 ^ 60) → ∀ p ∈ ps, p.natAbs ≤ 10 ^ 62
  | [], [], _, _, p, hp => by cases hp
  | n :: ns, q :: ps, h, b, p, hp => by
    obtain ⟨⟨h0, h1⟩, h2⟩ := h
    rcases List.mem_cons.mp hp with rfl | hp
    · have := b n List.mem_cons_self
      omega
    · exact seat_abs h2 (fun n hn => b n (List.mem_cons_of_mem _ hn)) p hp
def upL (ns p : List Int) : List Int := List.zipWith (fun x n => (x + 1) % n) p ns
theorem up_seat : ∀ {ns p : List Int}, (∀ n ∈ ns, 1 ≤ n) → p.length = ns.length → SeatOk ns (upL ns p)
  | [], [], _, _ => True.intro
  | n :: ns, x :: p, o, l => by
    have h := o n List.mem_cons_self
    exact ⟨⟨Int.emod_nonneg _ (by omega), Int.emod_lt_of_pos _ (by omega)⟩, up_seat (fun m hm => o m (List.mem_cons_of_mem _ hm)) (by simpa using l)⟩
theorem Dq.tupI {B : Addr → Prop} {H : Hp} {a : Addr} {ps : List Int} (h : H a = some (.tup (ps.map V.int))) : Dq B H (.ref a) (iT ps) := Dq.ints h
theorem pair_ent {p cs : List Int} {n : Nat} (lp : p.length ≤ 5) (lc : cs.length ≤ 5) (hp : ∀ x ∈ p, x.natAbs < 2 ^ 300) (hc : ∀ c ∈ cs, c.natAbs ≤ 10 ^ 42 + n) (n40 : n ≤ 40) : EntG (.tuple [iT p, iT cs]) ∧ CallB n (.tuple [iT p, iT cs]) := by
  have big : (10 : Nat) ^ 42 + 40 < 2 ^ 300 := by decide
  refine ⟨entg_tup (by simp) fun d hd => ?_, callB_pair hc⟩
  simp only [List.mem_cons, List.not_mem_nil, or_false] at hd
  rcases hd with rfl | rfl
  · exact prt_ints (by omega) hp
  · exact prt_ints (by omega) fun c h => by
      have := hc c h
      omega
theorem seat_abs2 : ∀ {ns ps : List Int}, SeatOk ns ps → (∀ n ∈ ns, n ≤ 10 ^ 21) → ∀ p ∈ ps, p.natAbs ≤ 10 ^ 21
  | [], [], _, _, p, hp => by cases hp
  | n :: ns, q :: ps, h, b, p, hp => by
    obtain ⟨⟨h0, h1⟩, h2⟩ := h
    rcases List.mem_cons.mp hp with rfl | hp
    · have := b n List.mem_cons_self
      omega
    · exact seat_abs2 h2 (fun n hn => b n (List.mem_cons_of_mem _ hn)) p hp
theorem Dq.xb {s : Addr} {H H2 : Hp} {v : V} {d : PyData} (src : Src H s) (x : XB s H H2) (q : Dq (· ≠ s) H v d) : Dq (· ≠ s) H2 v d := q.to (fun a xs b h => ⟨x _ _ b h, b⟩) (fun a xs h => tup_xb src h x)
theorem DqAll.xb {s : Addr} {H H2 : Hp} {vs : List V} {ds : List PyData} (src : Src H s) (x : XB s H H2) (q : DqAll (· ≠ s) H vs ds) : DqAll (· ≠ s) H2 vs ds := q.to (fun a xs b h => ⟨x _ _ b h, b⟩) (fun a xs h => tup_xb src h x)
theorem atI_nn {α : Type} {xs : List α} {k : Nat} {v : α} (h : xs[k]? = some v) : atI xs (k : Int) = some v := by
  unfold atI
  rw [Evl.ixN_nat (List.getElem?_eq_some_iff.mp h).1]
  exact h
theorem DqAll.at {B : Addr → Prop} {H : Hp} {xs : List V} {ds : List PyData} {r : Int} (h : DqAll B H xs ds) (r0 : 0 ≤ r) (r1 : r < xs.length) : ∃ (k : Nat) (v : V) (d : PyData), r = (k : Int) ∧ xs[k]? = some v ∧ atI xs r = some v ∧ ds[k]? = some d ∧ d ∈ ds ∧ Dq B H v d := by
  obtain ⟨k, rfl⟩ := Int.eq_ofNat_of_zero_le r0
  have hk : k < xs.length := by omega
  have hv := List.getElem?_eq_getElem hk
  obtain ⟨d, hd, q⟩ := h.get hv
  exact ⟨k, _, d, rfl, hv, atI_nn hv, hd, List.mem_of_getElem? hd, q⟩
section
variable {P : Program} {w : World} {K : PySem.W.Frag} {mg : Str → Option Value} {base : Heap}
def sp_law_changed : Sp := fun vs H Q _ => ∃ (s l g el : Addr) (ns : List Int) (tss : List (List Int)) (xs : List V) (es : List PyData) (n : Nat), vs = [.ref s, .ref l, .ref g, .ref el] ∧ Src H s ∧ H l = some (.lst (ns.map V.int)) ∧ l ≠ s ∧ SzOk ns ∧ (∀ n ∈ ns, n ≤ 10 ^ 21) ∧ RowsAt H g tss ∧ g ≠ s ∧ tss ≠ [] ∧ tss.length ≤ 4 ∧ (∀ t ∈ tss, SeatOk ns t) ∧
  H el = some (.lst xs) ∧ el ≠ s ∧ DqAll (· ≠ s) H xs es ∧ (∀ e ∈ es, EntG e ∧ CallB n e) ∧ es.length ≤ n ∧ n ≤ 30 ∧
  ∀ v d H2, Dq (· ≠ s) H2 v d → Pln (n + 1) d → XB s H H2 → Src H2 s → Q v H2
theorem ok_law_changed (T : TX K mg) : FnOk P w K mg base CX0 3 T.f_law_changed T.fd_law_changed ["_law_source_here", "_law_rings_here", "_law_goals_here", "_law_entries"] sp_law_changed := by
  refine T.F_law_changed.ok sc_law_changed (fun vs H Q E h => ?_) (fun cdv A outer s H vs Q E hr h => ?_)
  · obtain ⟨s, l, g, el, ns, tss, xs, es, n, rfl, _⟩ := h
    rfl
  · obtain ⟨s, l, g, el, ns, tss, xs, es, n, rfl, src, hl, nls, ok, nb, rg, ngs, ne, lt, sks, hel, nes, all, ents, len, n30, k⟩ := h
    refine ⟨_, (pss_cons (ps_set (i := 4) sc_law_changed.nd rfl (Or.inl rfl) (pe_ix ix_list (pv 2) pe_int (fun _ _ => rfl))) (pss_cons (ps_set (i := 5) sc_law_changed.nd rfl (Or.inl rfl) (pe_lst (pa_cons pe_non (pa_cons (pe_tup pa_nil) (pa_cons (pe_lst (pa_cons (pv 4) (pa_cons (pv 4) pa_nil))) (pa_cons (pe_tup (pa_cons (pv 4) pa_nil)) (pa_cons (pe_tup (pa_cons (pv 4) (pa_cons (pv 4) pa_nil))) (pa_cons (pe_tup (pa_cons (pv 4) (pa_cons (pv 4) (pa_cons pe_int pa_nil)))) (pa_cons pe_str pa_nil))))))))) (pss_cons (ps_if (pt_cmpR (r := rEqD K) (op_eqD hr.units) (pv 3) (pe_lst pa_nil) (nomark _)) (pss_one (ps_ret (pe_ix ix_list (pe_lst (pa_cons (pe_lst (pa_cons (pe_ix ix_list (pv 5) (pe_call (ok_law_draw T) hr rfl T.m_law_draw T.F_law_draw.kp T.b_law_draw .nil pass0 (pa_cons (pv 0) (pa_cons (pe_callB call_len_seq (by rfl) T.z_len (by decide +kernel) (pa_cons (pv 5) pa_nil)) pa_nil))) (fun _ _ => rfl)) pa_nil)) (pa_cons pe_non (pa_cons (pe_tup pa_nil) pa_nil)))) (pe_call (ok_law_draw T) hr rfl T.m_law_draw T.F_law_draw.kp T.b_law_draw .nil pass0 (pa_cons (pv 0) (pa_cons pe_int pa_nil))) (fun _ _ => rfl)))) pss_nil) (pss_cons (ps_set (i := 6) sc_law_changed.nd rfl (Or.inl rfl) (pe_call (ok_law_draw T) hr rfl T.m_law_draw T.F_law_draw.kp T.b_law_draw .nil pass0 (pa_cons (pv 0) (pa_cons (pe_callB call_len_seq (by rfl) T.z_len (by decide +kernel) (pa_cons (pv 3) pa_nil)) pa_nil)))) (pss_cons (ps_set (i := 7) sc_law_changed.nd rfl (Or.inl rfl) (pe_ix ix_list (pv 3) (pv 6) (fun _ _ => rfl))) (pss_cons (ps_par (i := 8) (j := 9) rfl sc_law_changed.nd rfl rfl (by decide) rfl rfl (pa_cons (pe_slice sl_list (pv 3) po_none (po_some (pv 6))) (pa_cons (pe_slice sl_list (pv 3) (po_some (pe_op op_add (pv 6) pe_int)) po_none) pa_nil)) (by rfl)) (pss_cons (ps_if (PW.pt (pw_or (pt_not (pt_val (pe_callB call_isi (by rfl) T.z_isinstance (by decide +kernel) (pa_cons (pv 7) (pa_cons (pe_bltn (v := .ty "tuple") rfl T.z_tuple (by decide +kernel) rfl) pa_nil))))) (pw_or1 (pt_cmpR op_ne (pe_callB call_len_seq (by rfl) T.z_len (by decide +kernel) (pa_cons (pv 7) pa_nil)) pe_int (nomark _))))) (pss_one (ps_ret (pv 3))) pss_nil) (pss_cons (ps_asg (pv 7) (pg_tup rfl (pgs_cons (pg_name (i := 10) sc_law_changed.nd rfl (Or.inl rfl)) (pgs_cons (pg_name (i := 11) sc_law_changed.nd rfl (Or.inl rfl)) pgs_nil)))) (pss_cons (ps_if (PW.pt (pw_or (pt_not (pt_val (pe_call (ok_law_is_spot T) (hr.mono (by decide)) rfl T.m_law_is_spot T.F_law_is_spot.kp T.b_law_is_spot .nil pass0 (pa_cons (pv 1) (pa_cons (pv 10) pa_nil))))) (pw_or1 (pt_not (pt_val (pe_call (ok_law_is_call T) (hr.mono (by decide)) rfl T.m_law_is_call T.F_law_is_call.kp T.b_law_is_call .nil pass0 (pa_cons (pv 1) (pa_cons (pv 11) pa_nil)))))))) (pss_one (ps_ret (pv 3))) pss_nil) (pss_cons (ps_set (i := 12) sc_law_changed.nd rfl (Or.inl rfl) (pe_callTy call_tuple_of (by rfl) T.z_tuple (by decide +kernel) (pa_cons (pe_lc (own := [("_law_place", 16), ("_law_size", 17)]) (g := (gTup K 2 (gCons (gName 16) (gCons (gName 17) gNil)))) rfl sc_law_changed.nd (CZ.pi_z2 (fl := [true, false]) rfl (by rfl) T.z_zip (pa_cons (pv 10) (pa_cons (pv 1) pa_nil))) (blkOk_by (N := N_law_changed) (sc := defScope s_law_changed) (by decide +kernel)) (fun _ _ _ _ _ => (pg_tup rfl (pgs_cons (pg_name (i := 16) sc_law_changed.nd rfl (Or.inl rfl)) (pgs_cons (pg_name (i := 17) sc_law_changed.nd rfl (Or.inl rfl)) pgs_nil)))) (fun _ _ _ _ _ => pts_nil) (fun _ _ _ _ _ => (pe_op op_mod (pe_op op_add (pv 16) pe_int) (pv 17)))) pa_nil))) (pss_cons (ps_set (i := 13) sc_law_changed.nd rfl (Or.inl rfl) (pe_lst (pa_cons (pe_tup (pa_cons (pv 12) (pa_cons (pv 11) pa_nil))) (pa_cons (pe_tup (pa_cons (pv 10) (pa_cons (pe_op (r := rCatA K) op_catA (pe_tup (pa_cons (pe_op op_add (pe_ix ix_tup (pv 11) pe_int (fun _ _ => rfl)) pe_int) pa_nil)) (pe_slice sl_tupA (pv 11) (po_some pe_int) po_none)) pa_nil))) (pa_cons (pe_tup (pa_cons (pv 10) (pa_cons (pe_slice sl_tupA (pv 11) (po_some pe_int) po_none) pa_nil))) (pa_cons (pe_tup (pa_cons (pv 10) (pa_cons (pe_op (r := rCatA K) op_catA (pe_tup (pa_cons pe_bl pa_nil)) (pe_slice sl_tupA (pv 11) (po_some pe_int) po_none)) pa_nil))) pa_nil)))))) (pss_cons (ps_set (i := 13) sc_law_changed.nd rfl (Or.inl rfl) (pe_op (r := rCatR K) op_catR (pv 13) (pe_lst (pa_cons (pe_tup (pa_cons (pe_op (r := rCatA K) op_catA (pv 10) (pe_tup (pa_cons pe_int pa_nil))) (pa_cons (pv 11) pa_nil))) (pa_cons (pe_tup (pa_cons (pe_callTy call_list_of (by rfl) T.z_list (by decide +kernel) (pa_cons (pv 10) pa_nil)) (pa_cons (pv 11) pa_nil))) (pa_cons (pe_tup (pa_cons (pv 10) (pa_cons pe_non pa_nil))) (pa_cons (pe_tup (pa_cons (pe_ix ix_list (pv 2) (pe_un un_neg pe_int) (fun _ _ => rfl)) (pa_cons (pe_op (r := rRepA K) op_repA (pe_tup (pa_cons pe_int pa_nil)) (pe_callB call_len_seq (by rfl) T.z_len (by decide +kernel) (pa_cons (pv 1) pa_nil))) pa_nil))) pa_nil))))))) (pss_cons (ps_set (i := 13) sc_law_changed.nd rfl (Or.inl rfl) (pe_op (r := rCatR K) op_catR (pv 13) (pe_lst (pa_cons (pe_ix ix_list (pv 5) (pe_call (ok_law_draw T) hr rfl T.m_law_draw T.F_law_draw.kp T.b_law_draw .nil pass0 (pa_cons (pv 0) (pa_cons (pe_callB call_len_seq (by rfl) T.z_len (by decide +kernel) (pa_cons (pv 5) pa_nil)) pa_nil))) (fun _ _ => rfl)) (pa_cons (pe_tup (pa_cons (pv 10) (pa_cons (pe_callTy call_list_of (by rfl) T.z_list (by decide +kernel) (pa_cons (pv 11) pa_nil)) pa_nil))) (pa_cons (pe_lst (pa_cons (pv 10) (pa_cons (pv 11) pa_nil))) pa_nil)))))) (pss_cons (ps_set (i := 14) sc_law_changed.nd rfl (Or.inl rfl) (pe_callTy call_tuple_of (by rfl) T.z_tuple (by decide +kernel) (pa_cons (pe_lc (own := [("_law_size", 17)]) (g := (gName 17)) rfl sc_law_changed.nd (pi_list (pv 1)) (blkOk_by (N := N_law_changed) (sc := defScope s_law_changed) (by decide +kernel)) (fun _ _ _ _ _ => (pg_name (i := 17) sc_law_changed.nd rfl (Or.inl rfl))) (fun _ _ _ _ _ => pts_nil) (fun _ _ _ _ _ => (pe_call (ok_law_draw T) hr rfl T.m_law_draw T.F_law_draw.kp T.b_law_draw .nil pass0 (pa_cons (pv 0) (pa_cons (pv 17) pa_nil))))) pa_nil))) (pss_cons (ps_set (i := 13) sc_law_changed.nd rfl (Or.inl rfl) (pe_op (r := rCatR K) op_catR (pv 13) (pe_op op_rep (pe_lst (pa_cons (pe_tup (pa_cons (pv 14) (pa_cons (pe_op (r := rRepA K) op_repA (pe_tup (pa_cons pe_int pa_nil)) (pe_callB call_len_seq (by rfl) T.z_len (by decide +kernel) (pa_cons (pv 1) pa_nil))) pa_nil))) (pa_cons (pe_tup (pa_cons (pv 14) (pa_cons (pe_callTy call_tuple_of (by rfl) T.z_tuple (by decide +kernel) (pa_cons (pe_lc (own := [("_law_size", 17)]) (g := (gName 17)) rfl sc_law_changed.nd (pi_list (pv 1)) (blkOk_by (N := N_law_changed) (sc := defScope s_law_changed) (by decide +kernel)) (fun _ _ _ _ _ => (pg_name (i := 17) sc_law_changed.nd rfl (Or.inl rfl))) (fun _ _ _ _ _ => pts_nil) (fun _ _ _ _ _ => (pe_op op_fdivW (pv 17) pe_int))) pa_nil)) pa_nil))) (pa_cons (pe_tup (pa_cons (pv 14) (pa_cons (pv 11) pa_nil))) pa_nil)))) pe_int))) (pss_cons (ps_set (i := 15) sc_law_changed.nd rfl (Or.inl rfl) (pe_lst (pa_cons (pe_op (r := rCatR K) op_catR (pv 8) (pv 9)) (pa_cons (pe_op (r := rCatR K) op_catR (pe_op (r := rCatR K) op_catR (pv 8) (pe_lst (pa_cons (pv 7) (pa_cons (pv 7) pa_nil)))) (pv 9)) (pa_cons (pe_op (r := rCatR K) op_catR (pe_op (r := rCatR K) op_catR (pv 9) (pe_lst (pa_cons (pv 7) pa_nil))) (pv 8)) (pa_cons (pe_callTy call_tuple_of (by rfl) T.z_tuple (by decide +kernel) (pa_cons (pv 3) pa_nil)) pa_nil)))))) (pss_cons (ps_set (i := 15) sc_law_changed.nd rfl (Or.inl rfl) (pe_op (r := rCatR K) op_catR (pv 15) (pe_op op_rep (pe_lst (pa_cons (pe_op (r := rCatR K) op_catR (pe_op (r := rCatR K) op_catR (pv 8) (pe_lst (pa_cons (pe_ix ix_list (pv 13) (pe_call (ok_law_draw T) hr rfl T.m_law_draw T.F_law_draw.kp T.b_law_draw .nil pass0 (pa_cons (pv 0) (pa_cons (pe_callB call_len_seq (by rfl) T.z_len (by decide +kernel) (pa_cons (pv 13) pa_nil)) pa_nil))) (fun _ _ => rfl)) pa_nil))) (pv 9)) pa_nil)) pe_int))) (pss_one (ps_ret (pe_ix ix_list (pv 15) (pe_call (ok_law_draw T) hr rfl T.m_law_draw T.F_law_draw.kp T.b_law_draw .nil pass0 (pa_cons (pv 0) (pa_cons (pe_callB call_len_seq (by rfl) T.z_len (by decide +kernel) (pa_cons (pv 15) pa_nil)) pa_nil))) (fun _ _ => rfl))))))))))))))))))))), ?_⟩
    have l4 := ok.le
    have lxs := all.len
    obtain ⟨gs, hg, rr⟩ := id rg
    have lg : gs.length = tss.length := Paired.length rr
    have g300 : ∀ {p : List Int}, SeatOk ns p → ∀ x ∈ p, x.natAbs < 2 ^ 300 := fun {p} sp x hx => by
      have := seat_abs sp (fun n hn => Int.le_trans (nb n hn) (by decide)) x hx
      exact Nat.lt_of_le_of_lt this (by decide)
    obtain ⟨t0, tr, rfl⟩ : ∃ t0 tr, tss = t0 :: tr := by
      cases tss with
      | nil => exact absurd rfl ne
      | cons a b => exact ⟨a, b, rfl⟩
    obtain ⟨gr, ga, rfl, hga⟩ : ∃ gr ga, gs = .ref ga :: gr ∧ H ga = some (.tup (t0.map V.int)) := by
      cases rr with
      | cons h t =>
        obtain ⟨a, rfl, ha⟩ := h
        exact ⟨_, a, rfl, ha⟩
    have sk0 := sks t0 List.mem_cons_self
    refine ⟨_, rfl, g, _, _, _, rfl, rfl, SqL.of hg, (L2.atI_nat (j := 0) rfl), ?_⟩
    dsimp only [gName]
    refine ⟨slen rfl, ?_⟩
    (intro o1 no1; generalize hGo1 : upd _ o1 _ = H1; have eH1 := exG hGo1 no1; have ho1 := atG hGo1; clear hGo1)
    refine ⟨_, rfl, _, rfl, slen rfl, ?_⟩
    (intro o2 no2; generalize hGo2 : upd _ o2 _ = H2; have eH2 := exG hGo2 no2; have ho2 := atG hGo2; clear hGo2)
    refine ⟨_, rfl, slen rfl, ?_⟩
    (intro o3 no3; generalize hGo3 : upd _ o3 _ = H3; have eH3 := exG hGo3 no3; have ho3 := atG hGo3; clear hGo3)
    refine ⟨_, rfl, _, rfl, slen rfl, ?_⟩
    (intro o4 no4; generalize hGo4 : upd _ o4 _ = H4; have eH4 := exG hGo4 no4; have ho4 := atG hGo4; clear hGo4)
    refine ⟨_, rfl, _, rfl, slen rfl, ?_⟩
    (intro o5 no5; generalize hGo5 : upd _ o5 _ = H5; have eH5 := exG hGo5 no5; have ho5 := atG hGo5; clear hGo5)
    refine ⟨slen rfl, ?_⟩
    (intro ol nol; generalize hGol : upd _ ol _ = H6; have eH6 := exG hGol nol; have hol := atG hGol; clear hGol)
    have E6 : Ex H H6 := ext (ext eH1 eH2) (ext (ext eH3 eH4) (ext eH5 eH6))
    have src6 := src.mono E6
    have nols : ol ≠ s := (src.mono (ext (ext eH1 eH2) (ext (ext eH3 eH4) eH5))).ne nol
    have no2 : o2 ≠ s := (src.mono eH1).ne no2
    have dgo : Dq (· ≠ s) H6 (.ref ga) (iT t0) := Dq.ints (E6 _ _ hga)
    have ho2b := (ext (ext eH3 eH4) (ext eH5 eH6)) _ _ ho2
    have oall : DqAll (· ≠ s) H6 [V.non, .ref o1, .ref o2, .ref o3, .ref o4, .ref o5, .str "entry"] [.none, .tuple [], .list [iT t0, iT t0], .tuple [iT t0], .tuple [iT t0, iT t0], .tuple [iT t0, iT t0, .int 0], .str "entry"] :=
      .cons .non (.cons (.tup ((ext (ext eH2 eH3) (ext (ext eH4 eH5) eH6)) _ _ ho1) .nil) (.cons (.lst ho2b no2 (.cons dgo (.cons dgo .nil))) (.cons (.tup ((ext eH4 (ext eH5 eH6)) _ _ ho3) (.cons dgo .nil)) (.cons (.tup ((ext eH5 eH6) _ _ ho4) (.cons dgo (.cons dgo .nil))) (.cons (.tup (eH6 _ _ ho5) (.cons dgo (.cons dgo (.cons (.int 0) .nil)))) (.cons (.str _) .nil))))))
    have pgo : Prt (iT t0) := prt_ints (by rw [sk0.len]; omega) (g300 sk0)
    have oents : ∀ e ∈ [PyData.none, .tuple [], .list [iT t0, iT t0], .tuple [iT t0], .tuple [iT t0, iT t0], .tuple [iT t0, iT t0, .int 0], .str "entry"], EntG e ∧ CallB (n + 1) e := fun e he => by
      have zb : ∀ c ∈ t0, c.natAbs ≤ 10 ^ 42 + (n + 1) := fun c hc => by
        have h1 := seat_abs2 sk0 nb c hc
        have h2 : 10 ^ 21 ≤ 10 ^ 42 := by decide
        omega
      have p2 : ∀ d ∈ [iT t0, iT t0], Prt d := fun d hd => by
        simp only [List.mem_cons, List.not_mem_nil, or_false] at hd
        rcases hd with rfl | rfl <;> exact pgo
      simp only [List.mem_cons, List.not_mem_nil, or_false] at he
      rcases he with rfl | rfl | rfl | rfl | rfl | rfl | rfl
      · exact ⟨entg_none, fun _ _ z => PyData.noConfusion z⟩
      · exact ⟨entg_tup (by decide) (fun d hd => by cases hd), callB_len (by decide)⟩
      · exact ⟨entg_list (by simp) p2, callB_list⟩
      · exact ⟨entg_tup (by simp) (fun d hd => by rw [List.mem_singleton.mp hd]; exact pgo), callB_len (by simp)⟩
      · exact ⟨entg_tup (by simp) p2, callB_pair zb⟩
      · refine ⟨entg_tup (by simp) fun d hd => ?_, callB_len (by simp)⟩
        simp only [List.mem_cons, List.not_mem_nil, or_false] at hd
        rcases hd with rfl | rfl | rfl
        · exact pgo
        · exact pgo
        · exact prt_int (by decide)
      · exact ⟨entg_word, fun _ _ z => PyData.noConfusion z⟩
    generalize hol2 : [V.non, .ref o1, .ref o2, .ref o3, .ref o4, .ref o5, .str "entry"] = ovs at *
    have lov : ovs.length = 7 := by rw [← hol2]; rfl
    generalize [PyData.none, .tuple [], .list [iT t0, iT t0], .tuple [iT t0], .tuple [iT t0, iT t0], .tuple [iT t0, iT t0, .int 0], .str "entry"] = ods at oall oents
    have hel6 := E6 _ _ hel
    have all6 := all.mono E6
    clear hol2 ho1 ho2 ho3 ho4 ho5 ho2b eH1 eH2 eH3 eH4 eH5 eH6
    dsimp only [gName]
    refine ⟨_, rfl, slen rfl, ?_⟩
    (intro nl nnl; generalize hGnl : upd _ nl _ = H7; have eH7 := exG hGnl nnl; have hnl := atG hGnl; clear hGnl)
    have src7 := src6.mono eH7
    have hel7 := eH7 _ _ hel6
    have all7 := all6.mono eH7
    have oall7 := oall.mono eH7
    have hol7 := eH7 _ _ hol
    have shE : SeqAt.shaped (.list es) = true := (sh_list (n := 59) (ds := es) fun e he => (ents e he).1.sh.up (by decide)).ok
    refine ⟨_, _, .lst (SqL.of hel7) all7.dp, .lst (SqL.of hnl) .nil, shE, (sh_list (n := 59) (ds := []) fun e he => by cases he).ok, _, rfl, ?_⟩
    rw [eqv_nil]
    have X7 := (XB.of (s := s) E6).trans (XB.of eH7)
    by_cases c0 : es = []
    · refine itt (decide_eq_true c0) ?_
      refine ⟨_, rfl, _, rfl, _, rfl, ol, _, rfl, .inl (SqL.of hol7), s, _, rfl, src7, by rw [lov]; decide, by rw [lov]; decide +kernel, fun r H8 r0 r1 xb8 src8 => ?_⟩
      obtain ⟨j, v, d, _, _, gv, _, md, qd⟩ := oall7.at r0 (by rw [lov] at *; omega)
      refine ⟨ol, _, _, _, rfl, rfl, SqL.of (xb8 _ _ nols hol7), gv, slen rfl, ?_⟩
      (intro a1 na1; generalize hGa1 : upd _ a1 _ = H9; have eH9 := exG hGa1 na1; have ha1 := atG hGa1; clear hGa1)
      refine ⟨slen rfl, ?_⟩
      (intro a2 na2; generalize hGa2 : upd _ a2 _ = HA; have eHA := exG hGa2 na2; have ha2 := atG hGa2; clear hGa2)
      refine ⟨slen rfl, ?_⟩
      (intro a3 na3; generalize hGa3 : upd _ a3 _ = HB; have eHB := exG hGa3 na3; have ha3 := atG hGa3; clear hGa3)
      have na1 := src8.ne na1
      have EB := ext eH9 (ext eHA eHB)
      have na3 := (src8.mono (ext eH9 eHA)).ne na3
      have srcB := src8.mono EB
      refine ⟨_, rfl, s, 3, rfl, srcB, by decide, by decide +kernel, fun r2 HC r20 r21 xbC srcC => ?_⟩
      have q1 : Dq (· ≠ s) HB (.ref a1) (.list [d]) := .lst ((ext eHA eHB) _ _ ha1) na1 (.cons ((qd.xb src7 xb8).mono EB) .nil)
      have q2 : DqAll (· ≠ s) HB [V.ref a1, .non, .ref a2] [.list [d], .none, .tuple []] := .cons q1 (.cons .non (.cons (.tup (eHB _ _ ha2) .nil) .nil))
      obtain ⟨j2, v2, d2, _, _, gv2, _, md2, qd2⟩ := q2.at r20 (by simpa using r21)
      refine ⟨a3, _, _, _, rfl, rfl, SqL.of (xbC _ _ na3 ha3), gv2, ?_⟩
      refine k v2 d2 _ (qd2.xb srcB xbC) ?_ (X7.trans (xb8.trans ((XB.of EB).trans xbC))) srcC
      simp only [List.mem_cons, List.not_mem_nil, or_false] at md2
      rcases md2 with rfl | rfl | rfl
      · exact pln_list (by simp) (by omega) fun e he => by rw [List.mem_singleton.mp he]; exact oents d md
      · exact pln_none
      · exact pln_tup (by simp) fun e he => by cases he
    refine itf (decide_eq_false c0) ?_
    dsimp only [tNext]
    have lp : 0 < xs.length := by
      have := List.length_pos_iff.mpr c0
      omega
    have l40 : (xs.length : Int).natAbs < 2 ^ 8000 := Nat.lt_of_le_of_lt (show (xs.length : Int).natAbs ≤ 100 by omega) (by decide +kernel)
    refine ⟨_, rfl, _, rfl, el, _, rfl, .inl (SqL.of hel7), s, _, rfl, src7, by omega, l40, fun r H8 r0 r1 xb8 src8 => ?_⟩
    have hel8 := xb8 _ _ nes hel7
    have all8 := all7.xb src7 xb8
    have oall8 := oall7.xb src7 xb8
    have hol8 := xb8 _ _ nols hol7
    have X8 := X7.trans xb8
    obtain ⟨j, ev, e, rfl, hev, gv, hej, me, qe⟩ := all8.at r0 r1
    refine ⟨_, rfl, _, rfl, el, _, _, _, rfl, rfl, SqL.of hel8, gv, ?_⟩
    dsimp only [gName]
    have ege := (ents e me).1
    have ecb := (ents e me).2
    clear all7 oall7 hol7 hel7 all6 oall hel6 hnl eH7 xb8
    refine ⟨_, rfl, ?_⟩
    unfold tNoPart
    refine ⟨_, rfl, _, rfl, el, _, rfl, SqL.of hel8, fun hd nhd => ?_⟩
    rw [cut_to]
    generalize hG : upd H8 hd _ = H9
    have e9 := exG hG nhd
    have hhd := atG hG
    clear hG
    have nhds := src8.ne nhd
    refine ⟨_, rfl, _, rfl, _, _, rfl, rfl, _, rfl, ?_⟩
    refine ⟨el, _, rfl, SqL.of (e9 _ _ hel8), fun tl ntl => ?_⟩
    have ej : ((j : Int) + 1) = ((j + 1 : Nat) : Int) := by omega
    rw [ej, cut_from]
    generalize hG : upd H9 tl _ = HA
    have eA := exG hG ntl
    have htl := atG hG
    clear hG
    have ntls := (src8.mono e9).ne ntl
    have E8 := ext e9 eA
    have srcA := src8.mono E8
    have XA := X8.trans (XB.of E8)
    have helA := E8 _ _ hel8
    have allA := all8.mono E8
    have oallA := oall8.mono E8
    have holA := E8 _ _ hol8
    have hhdA := eA _ _ hhd
    have qeA := qe.mono E8
    have whole : Q (.ref el) HA := k _ _ _ (.lst helA nes allA) (pln_list (by omega) (by omega) fun e he => ⟨(ents e he).1, (ents e he).2.up (Nat.le_succ n)⟩) XA srcA
    refine ⟨_, _, rfl, ?_⟩
    obtain ⟨ty, hty, hkit⟩ := qeA.isT (K := K)
    refine ⟨_, rfl, _, _, _, _, _, rfl, .ty _, hty, hkit, _, rfl, ?_⟩
    cases et : tupD e with
    | none => exact itt rfl ⟨_, rfl, whole⟩
    | some ps =>
    refine itf rfl ?_
    obtain ⟨r, xr, rfl, hre, hall⟩ := qeA.tupA et
    have lxr := hall.len
    refine ⟨_, rfl, r, _, rfl, .inr (SqT.of hre), rfl, _, rfl, ?_⟩
    by_cases c2 : ps.length = 2
    rotate_left
    · exact itt (by rw [lxr]; simp; omega) ⟨_, rfl, whole⟩
    refine itf (by rw [lxr, c2]; simp) ?_
    obtain ⟨da, db, rfl⟩ : ∃ ds dc, ps = [ds, dc] := by
      match ps, c2 with
      | [a, b], _ => exact ⟨a, b, rfl⟩
    obtain ⟨v1, v2, rfl⟩ : ∃ v1 v2, xr = [v1, v2] := by
      match xr, lxr with
      | [a, b], _ => exact ⟨a, b, rfl⟩
    obtain ⟨q1, q2⟩ : Dq (· ≠ s) HA v1 da ∧ Dq (· ≠ s) HA v2 db := by
      cases hall with
      | cons a b => cases b with
        | cons c d => exact ⟨a, c⟩
    dsimp only [tNext]
    refine ⟨_, rfl, r, _, rfl, SqT.of hre, rfl, _, _, rfl, _, _, rfl, rfl, ?_⟩
    have hlA := XA _ _ nls hl
    refine ⟨_, rfl, _, rfl, (· ≠ s), l, v1, ns, da, rfl, hlA, l4, q1, fun HB eB => ?_⟩
    have whole2 : ∀ H2, Ex HA H2 → Q (.ref el) H2 := fun H2 e2 => k _ _ _ (.lst (e2 _ _ helA) nes (allA.mono e2)) (pln_list (by omega) (by omega) fun e he => ⟨(ents e he).1, (ents e he).2.up (Nat.le_succ n)⟩) (XA.trans (XB.of e2)) (srcA.mono e2)
    cases is : isSeatO ns (oT da) with
    | false => exact ⟨_, rfl, itt rfl ⟨_, rfl, whole2 _ eB⟩⟩
    | true =>
    refine ⟨_, rfl, itf rfl ?_⟩
    refine ⟨_, rfl, _, rfl, (· ≠ s), l, v2, ns, db, rfl, eB _ _ hlA, l4, q2.mono eB, ege.ps _ et db (by simp), fun HC eC => ?_⟩
    have EC := ext eB eC
    cases ic : isCallO ns (oT db) with
    | false => exact ⟨_, rfl, itt rfl ⟨_, rfl, whole2 _ EC⟩⟩
    | true =>
    refine ⟨_, rfl, itf rfl ?_⟩
    obtain ⟨p, rfl, sp⟩ := seat_ints is
    obtain ⟨cs, rfl, lc⟩ := call_ints ic
    obtain ⟨c, rfl, hc⟩ := q1.intsT
    obtain ⟨cc, rfl, hcc⟩ := q2.intsT
    clear whole whole2
    dsimp only [tNext]
    have hlB := EC _ _ hlA
    have hcB := EC _ _ hc
    have hccB := EC _ _ hcc
    have helB := EC _ _ helA
    have allB := allA.mono EC
    have oallB := oallA.mono EC
    have holB := EC _ _ holA
    have hhdB := EC _ _ hhdA
    have htlB := EC _ _ htl
    have srcB := srcA.mono EC
    have XC := XA.trans (XB.of EC)
    have hreB := EC _ _ hre
    have rrB : RowsR HC (V.ref ga :: gr) (t0 :: tr) := rr.monoT fun c ws z => tup_xb src z XC
    have hgB := XC _ _ ngs hg
    clear hlA hc hcc helA allA oallA holA hhdA htl srcA XA hre EC E8 eA e9 eB eC q1 q2 qe qeA hel8 all8 oall8 hol8 X8 src8 hall
    obtain ⟨c0, ct, rfl⟩ : ∃ c0 ct, cs = c0 :: ct := by
      cases cs with
      | nil =>
        have := ok.pos
        have : ns.length = 0 := lc.symm
        exact absurd (List.length_eq_zero_iff.mp this) ok.pos
      | cons a b => exact ⟨a, b, rfl⟩
    show tSeq _ _ _ [_, _, _, _, _, _, _, _, _, _, _, _, _, _, _, _, _, _] _
    refine ⟨_, rfl, _, rfl, [c, l], rfl, rfl, all2 (sqT hcB) (sqL hlB), fun D hD => ?_⟩
    have lp := sp.len
    refine lc_vals (CZ.walk_rows (xss := [p.map V.int, ns.map V.int]) (n := ns.length) (lens2 (by rw [List.length_map, lp]) (by rw [List.length_map]))) ((upL ns p).map V.int) (by unfold upL; rw [List.length_map, List.length_zipWith, lp, Nat.min_self]) (by omega) hD (fun H3 e => .cons (sqT (e _ _ hcB)) (.cons (sqL (e _ _ hlB)) .nil)) ?_ (gmono_tup (gmono_cons gmono_name (gmono_cons gmono_name gmono_nil))) ?_
    · intro i y H6 H7 R hj e yy kk
      obtain ⟨Tb, x, n, rfl, hTb, rfl, hx, hn⟩ := yints2 yy
      have n1 := ok.one n (List.mem_of_getElem? hn)
      refine ⟨Tb, _, rfl, SqT.of upd_same, rfl, _, _, rfl, _, _, rfl, rfl, ?_⟩
      refine ⟨rfl, _, rfl, _, _, rfl, rfl, _, rfl, _, _, rfl, rfl, (by show (0 : Int) < n; omega), ?_⟩
      refine kk _ _ (exn hTb) ?_
      unfold upL
      rw [List.getElem?_map, List.getElem?_zipWith, hx, hn]
      rfl
    intro HD eD hDD
    have skU := up_seat (ns := ns) (p := p) ok.one lp
    refine ⟨D, _, rfl, .inl ⟨SqL.of hDD, ?_⟩⟩
    (intro u nu; generalize hGu : upd _ u _ = G0; have eG0 := exG hGu nu; have hu := atG hGu; clear hGu)
    dsimp only [gName]
    show tSeq _ _ _ [_, _, _, _, _, _, _, _, _, _, _, _, _, _, _, _, _, _] _
    have eG := ext eD eG0
    have hcc0 := eG _ _ hccB
    have hc0 := eG _ _ hcB
    refine ⟨_, rfl, _, rfl, slen rfl, ?_⟩
    (intro p1 np1; generalize hGp1 : upd _ p1 _ = G1; have eG1 := exG hGp1 np1; have hp1 := atG hGp1; clear hGp1)
    refine ⟨_, rfl, _, rfl, cc, _, _, _, rfl, rfl, SqT.of (eG1 _ _ hcc0), (L2.atI_nat (j := 0) rfl), _, _, rfl, rfl, slen rfl, ?_⟩
    (intro t1 nt1; generalize hGt1 : upd _ t1 _ = G2; have eG2 := exG hGt1 nt1; have ht1 := atG hGt1; clear hGt1)
    refine ⟨_, rfl, _, rfl, ?_⟩
    refine sl_ints ((ext eG1 eG2) _ _ hcc0) fun v1 G3 e3 hv1 => ?_
    rw [show cutV ((c0 :: ct).map V.int) (some 1) none = ct.map V.int from cut_from _ 1] at hv1
    refine cat_tup (e3 _ _ ht1) hv1 (by rw [List.length_map]; simp at lc ⊢; omega) fun v2 G4 e4 hv2 => ⟨slen rfl, ?_⟩
    (intro p2 np2; generalize hGp2 : upd _ p2 _ = G5; have eG5 := exG hGp2 np2; have hp2 := atG hGp2; clear hGp2)
    have E5 := ext eG1 (ext eG2 (ext e3 (ext e4 eG5)))
    refine ⟨_, rfl, _, rfl, _, rfl, ?_⟩
    refine sl_ints (E5 _ _ hcc0) fun v3 G6 e6 hv3 => ⟨slen rfl, ?_⟩
    rw [show cutV ((c0 :: ct).map V.int) (some 1) none = ct.map V.int from cut_from _ 1] at hv3
    (intro p3 np3; generalize hGp3 : upd _ p3 _ = G7; have eG7 := exG hGp3 np3; have hp3 := atG hGp3; clear hGp3)
    have E7 := ext E5 (ext e6 eG7)
    refine ⟨_, rfl, slen rfl, ?_⟩
    (intro t4 nt4; generalize hGt4 : upd _ t4 _ = G8; have eG8 := exG hGt4 nt4; have ht4 := atG hGt4; clear hGt4)
    refine ⟨_, rfl, _, rfl, ?_⟩
    refine sl_ints ((ext E7 eG8) _ _ hcc0) fun v4 G9 e9 hv4 => ?_
    rw [show cutV ((c0 :: ct).map V.int) (some 1) none = ct.map V.int from cut_from _ 1] at hv4
    refine cat_tup (e9 _ _ ht4) hv4 (by rw [List.length_map]; simp at lc ⊢; omega) fun v5 GA eA hv5 => ⟨slen rfl, ?_⟩
    (intro p4 np4; generalize hGp4 : upd _ p4 _ = GB; have eGB := exG hGp4 np4; have hp4 := atG hGp4; clear hGp4)
    have EB := ext E7 (ext eG8 (ext e9 (ext eA eGB)))
    refine ⟨slen rfl, ?_⟩
    (intro oa noa; generalize hGoa : upd _ oa _ = GC; have eGC := exG hGoa noa; have hoa := atG hGoa; clear hGoa)
    have EC := ext EB eGC
    have lct : ct.length ≤ 3 := by simp at lc; omega
    have l5 : p.length ≤ 5 := by omega
    have cb0 : ∀ x ∈ c0 :: ct, x.natAbs ≤ 10 ^ 42 + n := ecb p (c0 :: ct) (tupD_eq et)
    have big42 : (10 : Nat) ^ 42 + 31 < 2 ^ 300 := by decide
    have cbL : ∀ x ∈ c0 :: ct, x.natAbs < 2 ^ 300 := fun x hx => by
      have := cb0 x hx
      omega
    have cbT : ∀ x ∈ ct, x.natAbs < 2 ^ 300 := fun x hx => cbL x (List.mem_cons_of_mem _ hx)
    have dp : Dq (· ≠ s) GC (.ref c) (iT p) := Dq.ints (EC _ _ hc0)
    have dc : Dq (· ≠ s) GC (.ref cc) (iT (c0 :: ct)) := Dq.ints (EC _ _ hcc0)
    have du : Dq (· ≠ s) GC (.ref u) (iT (upL ns p)) := Dq.ints (EC _ _ hu)
    have d2 : Dq (· ≠ s) GC (.ref v2) (iT ((c0 + 1) :: ct)) := Dq.ints ((ext eG5 (ext e6 (ext eG7 (ext eG8 (ext e9 (ext eA (ext eGB eGC))))))) _ _ hv2)
    have d3 : Dq (· ≠ s) GC (.ref v3) (iT ct) := Dq.ints ((ext eG7 (ext eG8 (ext e9 (ext eA (ext eGB eGC))))) _ _ hv3)
    have d5 : Dq (· ≠ s) GC (.ref v5) (.tuple (.bool true :: ct.map PyData.int)) := .tup ((ext eGB eGC) _ _ hv5) (.cons (.bl true) (DqAll.ints ct))
    have qa : DqAll (· ≠ s) GC [V.ref p1, .ref p2, .ref p3, .ref p4] [.tuple [iT (upL ns p), iT (c0 :: ct)], .tuple [iT p, iT ((c0 + 1) :: ct)], .tuple [iT p, iT ct], .tuple [iT p, .tuple (.bool true :: ct.map PyData.int)]] :=
      .cons (.tup ((ext eG2 (ext e3 (ext e4 (ext eG5 (ext e6 (ext eG7 (ext eG8 (ext e9 (ext eA (ext eGB eGC)))))))))) _ _ hp1) (.cons du (.cons dc .nil))) (.cons (.tup ((ext e6 (ext eG7 (ext eG8 (ext e9 (ext eA (ext eGB eGC)))))) _ _ hp2) (.cons dp (.cons d2 .nil))) (.cons (.tup ((ext eG8 (ext e9 (ext eA (ext eGB eGC)))) _ _ hp3) (.cons dp (.cons d3 .nil))) (.cons (.tup (eGC _ _ hp4) (.cons dp (.cons d5 .nil))) .nil)))
    have ga4 : ∀ d ∈ [PyData.tuple [iT (upL ns p), iT (c0 :: ct)], .tuple [iT p, iT ((c0 + 1) :: ct)], .tuple [iT p, iT ct], .tuple [iT p, .tuple (.bool true :: ct.map PyData.int)]], GE (n + 1) d := fun d hd => by
      simp only [List.mem_cons, List.not_mem_nil, or_false] at hd
      rcases hd with rfl | rfl | rfl | rfl
      · exact pair_ent (by rw [skU.len]; omega) (by rw [List.length_cons]; omega) (g300 skU) (fun x hx => Nat.le_trans (cb0 x hx) (by omega)) (by omega)
      · refine pair_ent l5 (by rw [List.length_cons]; omega) (g300 sp) (fun x hx => ?_) (by omega)
        rcases List.mem_cons.mp hx with rfl | hx
        · have := cb0 c0 List.mem_cons_self
          omega
        · exact Nat.le_trans (cb0 x (List.mem_cons_of_mem _ hx)) (by omega)
      · exact pair_ent l5 (by omega) (g300 sp) (fun x hx => Nat.le_trans (cb0 x (List.mem_cons_of_mem _ hx)) (by omega)) (by omega)
      · exact ge_snd l5 (g300 sp) (prt_true (by omega) cbT) (fun cs z => by
          injection z with z
          cases cs with
          | nil => cases z
          | cons a b =>
            injection z with z
            cases z)
    have lq4 : ([PyData.tuple [iT (upL ns p), iT (c0 :: ct)], .tuple [iT p, iT ((c0 + 1) :: ct)], .tuple [iT p, iT ct], .tuple [iT p, .tuple (.bool true :: ct.map PyData.int)]]).length = 4 := rfl
    have hlC := EC _ _ (eG _ _ hlB)
    have hgC := EC _ _ (eG _ _ hgB)
    have holC := EC _ _ (eG _ _ holB)
    have helC := EC _ _ (eG _ _ helB)
    have hhdC := EC _ _ (eG _ _ hhdB)
    have htlC := EC _ _ (eG _ _ htlB)
    have hreC := EC _ _ (eG _ _ hreB)
    have allC := allB.mono (ext eG EC)
    have oallC := oallB.mono (ext eG EC)
    have srcC := srcB.mono (ext eG EC)
    have XGC := XC.trans (XB.of (ext eG EC))
    have rrC : RowsR GC (V.ref ga :: gr) (t0 :: tr) := rrB.mono (ext eG EC)
    have hcC := EC _ _ hc0
    have hccC := EC _ _ hcc0
    generalize [PyData.tuple [iT (upL ns p), iT (c0 :: ct)], .tuple [iT p, iT ((c0 + 1) :: ct)], .tuple [iT p, iT ct], .tuple [iT p, .tuple (.bool true :: ct.map PyData.int)]] = qs4 at qa ga4 lq4
    generalize [V.ref p1, .ref p2, .ref p3, .ref p4] = vs4 at qa hoa
    have lv4 : vs4.length = 4 := by rw [qa.len, lq4]
    clear hu d2 d3 d5 du dp dc hv5 hv4 hv3 hv2 hv1 hp1 hp2 hp3 hp4 ht1 ht4 eG1 eG2 e3 e4 eG5 e6 eG7 eG8 e9 eA eGB eGC EB E7 E5 EC eG eG0 eD hDD hlB hgB holB helB hhdB htlB hreB allB oallB srcB XC rrB hc0 hcc0 hcB hccB
    dsimp only [gName]
    show tSeq _ _ _ [_, _, _, _, _, _, _, _, _, _, _, _, _, _, _, _, _, _] _
    refine ⟨_, rfl, _, rfl, slen rfl, ?_⟩
    (intro z1 nz1; generalize hGz1 : upd _ z1 _ = G1; have eG1 := exG hGz1 nz1; have hz1 := atG hGz1; clear hGz1)
    refine cat_tup (eG1 _ _ hcC) hz1 (by rw [List.length_map]; simp; omega) fun v1 G2 e2 hv1 => ⟨_, rfl, slen rfl, ?_⟩
    (intro p5 np5; generalize hGp5 : upd _ p5 _ = G3; have eG3 := exG hGp5 np5; have hp5 := atG hGp5; clear hGp5)
    have E3 := ext eG1 (ext e2 eG3)
    refine ⟨_, rfl, c, _, rfl, .inr (SqT.of (E3 _ _ hcC)), ?_⟩
    (intro lp6 nlp6; generalize hGlp6 : upd _ lp6 _ = G4; have eG4 := exG hGlp6 nlp6; have hlp6 := atG hGlp6; clear hGlp6)
    have nlp6 : lp6 ≠ s := (srcC.mono E3).ne nlp6
    refine ⟨_, rfl, slen rfl, ?_⟩
    (intro p6 np6; generalize hGp6 : upd _ p6 _ = G5; have eG5 := exG hGp6 np6; have hp6 := atG hGp6; clear hGp6)
    refine ⟨_, rfl, slen rfl, ?_⟩
    (intro p7 np7; generalize hGp7 : upd _ p7 _ = G6; have eG6 := exG hGp7 np7; have hp7 := atG hGp7; clear hGp7)
    have E6 := ext E3 (ext eG4 (ext eG5 eG6))
    obtain ⟨gz, tz, hgz, hgzt, mtz⟩ := rows_last rrC (by simp)
    refine ⟨_, rfl, _, rfl, g, _, _, _, rfl, rfl, SqL.of (E6 _ _ hgC), hgz, slen rfl, ?_⟩
    (intro z2 nz2; generalize hGz2 : upd _ z2 _ = G7; have eG7 := exG hGz2 nz2; have hz2 := atG hGz2; clear hGz2)
    have lns : 1 ≤ ns.length := by
      have := List.length_pos_iff.mpr ok.pos
      omega
    refine ⟨_, rfl, l, _, rfl, .inl (SqL.of ((ext E6 eG7) _ _ hlC)), rep_ints hz2 (by rw [List.length_map]; omega) (by rw [List.length_map]; omega) fun z3 G8 e8 hz3 => ⟨slen rfl, ?_⟩⟩
    (intro p8 np8; generalize hGp8 : upd _ p8 _ = G9; have eG9 := exG hGp8 np8; have hp8 := atG hGp8; clear hGp8)
    have E9 := ext E6 (ext eG7 (ext e8 eG9))
    refine ⟨slen rfl, ?_⟩
    (intro ob nob; generalize hGob : upd _ ob _ = GA; have eGA := exG hGob nob; have hob := atG hGob; clear hGob)
    have EA := ext E9 eGA
    rw [List.length_map, show ((ns.length : Nat) : Int).toNat = ns.length from rfl] at hz3
    have dp : Dq (· ≠ s) GA (.ref c) (iT p) := Dq.ints (EA _ _ hcC)
    have dc : Dq (· ≠ s) GA (.ref cc) (iT (c0 :: ct)) := Dq.ints (EA _ _ hccC)
    have d1 : Dq (· ≠ s) GA (.ref v1) (iT (p ++ [0])) := Dq.ints (by
      rw [List.map_append]
      exact (ext eG3 (ext eG4 (ext eG5 (ext eG6 (ext eG7 (ext e8 (ext eG9 eGA))))))) _ _ hv1)
    have d6 : Dq (· ≠ s) GA (.ref lp6) (.list (p.map PyData.int)) := .lst ((ext eG5 (ext eG6 (ext eG7 (ext e8 (ext eG9 eGA))))) _ _ hlp6) nlp6 (DqAll.ints p)
    have dz : Dq (· ≠ s) GA (.ref z3) (iT (List.replicate ns.length 0)) := Dq.ints ((ext eG9 eGA) _ _ hz3)
    have dg : Dq (· ≠ s) GA (.ref gz) (iT tz) := Dq.ints (EA _ _ hgzt)
    have qb : DqAll (· ≠ s) GA [V.ref p5, .ref p6, .ref p7, .ref p8] [.tuple [iT (p ++ [0]), iT (c0 :: ct)], .tuple [.list (p.map PyData.int), iT (c0 :: ct)], .tuple [iT p, .none], .tuple [iT tz, iT (List.replicate ns.length 0)]] :=
      .cons (.tup ((ext eG4 (ext eG5 (ext eG6 (ext eG7 (ext e8 (ext eG9 eGA)))))) _ _ hp5) (.cons d1 (.cons dc .nil))) (.cons (.tup ((ext eG6 (ext eG7 (ext e8 (ext eG9 eGA)))) _ _ hp6) (.cons d6 (.cons dc .nil))) (.cons (.tup ((ext eG7 (ext e8 (ext eG9 eGA))) _ _ hp7) (.cons dp (.cons .non .nil))) (.cons (.tup (eGA _ _ hp8) (.cons dg (.cons dz .nil))) .nil)))
    have skz := sks tz mtz
    have skZ := zero_seat (ns := ns) ok.one
    have gb4 : ∀ d ∈ [PyData.tuple [iT (p ++ [0]), iT (c0 :: ct)], .tuple [.list (p.map PyData.int), iT (c0 :: ct)], .tuple [iT p, .none], .tuple [iT tz, iT (List.replicate ns.length 0)]], GE (n + 1) d := fun d hd => by
      simp only [List.mem_cons, List.not_mem_nil, or_false] at hd
      rcases hd with rfl | rfl | rfl | rfl
      · refine pair_ent (by rw [List.length_append]; simp; omega) (by rw [List.length_cons]; omega) (fun x hx => ?_) (fun x hx => Nat.le_trans (cb0 x hx) (by omega)) (by omega)
        rcases List.mem_append.mp hx with hx | hx
        · exact g300 sp x hx
        · rw [List.mem_singleton.mp hx]
          decide
      · exact ge_fst (by rw [List.length_cons]; omega) cbL (prt_lints l5 (g300 sp)) (fun cs z => PyData.noConfusion z)
      · exact ge_snd l5 (g300 sp) prt_none (fun cs z => PyData.noConfusion z)
      · refine pair_ent (by rw [skz.len]; omega) (by rw [List.length_replicate]; omega) (g300 skz) (fun x hx => ?_) (by omega)
        rw [List.eq_of_mem_replicate hx]
        exact Nat.zero_le _
    have lq4b : ([PyData.tuple [iT (p ++ [0]), iT (c0 :: ct)], .tuple [.list (p.map PyData.int), iT (c0 :: ct)], .tuple [iT p, .none], .tuple [iT tz, iT (List.replicate ns.length 0)]]).length = 4 := rfl
    generalize [PyData.tuple [iT (p ++ [0]), iT (c0 :: ct)], .tuple [.list (p.map PyData.int), iT (c0 :: ct)], .tuple [iT p, .none], .tuple [iT tz, iT (List.replicate ns.length 0)]] = qsb at qb gb4 lq4b
    generalize [V.ref p5, .ref p6, .ref p7, .ref p8] = vsb at qb hob
    have lvb : vsb.length = 4 := by rw [qb.len, lq4b]
    refine ⟨oa, ob, _, _, rfl, rfl, SqL.of (EA _ _ hoa), SqL.of hob, by rw [lv4, lvb]; decide, ?_⟩
    (intro oc noc; generalize hGoc : upd _ oc _ = GB; have eGB := exG hGoc noc; have hoc := atG hGoc; clear hGoc)
    have EB := ext EA eGB
    have qab := (qa.mono EB).app (qb.mono eGB)
    have gab : ∀ d ∈ qs4 ++ qsb, GE (n + 1) d := fun d hd => by
      rcases List.mem_append.mp hd with h | h
      · exact ga4 d h
      · exact gb4 d h
    have lab : (qs4 ++ qsb).length = 8 := by rw [List.length_append, lq4, lq4b]
    generalize qs4 ++ qsb = qs8 at qab gab lab
    generalize vs4 ++ vsb = vs8 at qab hoc
    have lv8 : vs8.length = 8 := by rw [qab.len, lab]
    have hlD := EB _ _ hlC
    have holD := EB _ _ holC
    have helD := EB _ _ helC
    have hhdD := EB _ _ hhdC
    have htlD := EB _ _ htlC
    have hreD := EB _ _ hreC
    have allD := allC.mono EB
    have oallD := oallC.mono EB
    have srcD := srcC.mono EB
    have XGD := XGC.trans (XB.of EB)
    have hcD := EB _ _ hcC
    have hccD := EB _ _ hccC
    have noc : oc ≠ s := (srcC.mono EA).ne noc
    clear dp dc d1 d6 dz dg qa qb ga4 gb4 lq4 lq4b lv4 lvb hob hoa hp5 hp6 hp7 hp8 hv1 hz1 hz2 hz3 hlp6 eG1 e2 eG3 eG4 eG5 eG6 eG7 e8 eG9 eGA eGB E3 E6 E9 EA EB hgz hgzt rrC hgC hlC holC helC hhdC htlC hreC allC oallC srcC XGC hcC hccC
    dsimp only [gName]
    show tSeq _ _ _ [_, _, _, _, _, _, _, _, _, _, _, _, _, _, _, _, _, _] _
    have nelS : el ≠ s := nes
    have nhdS := nhds
    refine ⟨_, rfl, _, rfl, _, rfl, _, rfl, ol, _, rfl, .inl (SqL.of holD), s, _, rfl, srcD, by rw [lov]; decide, by rw [lov]; decide +kernel, fun r1 G1 r10 r11 xb1 src1 => ?_⟩
    obtain ⟨_, v1, d1, _, _, gv1, _, md1, qd1⟩ := oallD.at r10 (by rw [lov] at *; omega)
    have hc1 := tup_xb srcD hcD xb1
    have hcc1 := tup_xb srcD hccD xb1
    refine ⟨ol, _, _, _, rfl, rfl, SqL.of (xb1 _ _ nols holD), gv1, ?_⟩
    refine ⟨_, rfl, _, rfl, cc, _, rfl, .inr (SqT.of hcc1), ?_⟩
    (intro lcc nlcc; generalize hGlcc : upd _ lcc _ = G2; have eG2 := exG hGlcc nlcc; have hlcc := atG hGlcc; clear hGlcc)
    have nlcc : lcc ≠ s := src1.ne nlcc
    refine ⟨slen rfl, ?_⟩
    (intro pA npA; generalize hGpA : upd _ pA _ = G3; have eG3 := exG hGpA npA; have hpA := atG hGpA; clear hGpA)
    refine ⟨_, rfl, _, rfl, slen rfl, ?_⟩
    (intro lB nlB; generalize hGlB : upd _ lB _ = G4; have eG4 := exG hGlB nlB; have hlB := atG hGlB; clear hGlB)
    have nlBs : lB ≠ s := (src1.mono (ext eG2 eG3)).ne nlB
    refine ⟨slen rfl, ?_⟩
    (intro ob nob; generalize hGob : upd _ ob _ = G5; have eG5 := exG hGob nob; have hob := atG hGob; clear hGob)
    have E5 := ext eG2 (ext eG3 (ext eG4 eG5))
    have dp : Dq (· ≠ s) G5 (.ref c) (iT p) := Dq.ints (E5 _ _ hc1)
    have dc : Dq (· ≠ s) G5 (.ref cc) (iT (c0 :: ct)) := Dq.ints (E5 _ _ hcc1)
    have qb : DqAll (· ≠ s) G5 [v1, .ref pA, .ref lB] [d1, .tuple [iT p, .list ((c0 :: ct).map PyData.int)], .list [iT p, iT (c0 :: ct)]] :=
      .cons ((qd1.xb srcD xb1).mono E5) (.cons (.tup ((ext eG4 eG5) _ _ hpA) (.cons dp (.cons (.lst ((ext eG3 (ext eG4 eG5)) _ _ hlcc) nlcc (DqAll.ints (c0 :: ct))) .nil))) (.cons (.lst (eG5 _ _ hlB) nlBs (.cons dp (.cons dc .nil))) .nil))
    have gb3 : ∀ d ∈ [d1, .tuple [iT p, .list ((c0 :: ct).map PyData.int)], .list [iT p, iT (c0 :: ct)]], GE (n + 1) d := fun d hd => by
      simp only [List.mem_cons, List.not_mem_nil, or_false] at hd
      rcases hd with rfl | rfl | rfl
      · exact oents _ md1
      · exact ge_snd l5 (g300 sp) (prt_lints (by rw [List.length_cons]; omega) cbL) (fun cs z => PyData.noConfusion z)
      · exact ge_list (prt_ints (by omega) (g300 sp)) (prt_ints (by rw [List.length_cons]; omega) cbL)
    have lb3 : ([d1, PyData.tuple [iT p, .list ((c0 :: ct).map PyData.int)], .list [iT p, iT (c0 :: ct)]]).length = 3 := rfl
    generalize [d1, PyData.tuple [iT p, .list ((c0 :: ct).map PyData.int)], .list [iT p, iT (c0 :: ct)]] = qs3 at qb gb3 lb3
    generalize [v1, V.ref pA, .ref lB] = vs3 at qb hob
    have lv3 : vs3.length = 3 := by rw [qb.len, lb3]
    refine ⟨oc, ob, _, _, rfl, rfl, SqL.of (E5 _ _ (xb1 _ _ noc hoc)), SqL.of hob, by rw [lv8, lv3]; decide, ?_⟩
    (intro od nod; generalize hGod : upd _ od _ = G6; have eG6 := exG hGod nod; have hod := atG hGod; clear hGod)
    have E6 := ext E5 eG6
    have qcd := ((qab.xb srcD xb1).mono E6).app (qb.mono eG6)
    have gcd : ∀ d ∈ qs8 ++ qs3, GE (n + 1) d := fun d hd => by
      rcases List.mem_append.mp hd with h | h
      · exact gab d h
      · exact gb3 d h
    have lcd : (qs8 ++ qs3).length = 11 := by rw [List.length_append, lab, lb3]
    generalize qs8 ++ qs3 = qs11 at qcd gcd lcd
    generalize vs8 ++ vs3 = vs11 at qcd hod
    have lv11 : vs11.length = 11 := by rw [qcd.len, lcd]
    have nod : od ≠ s := (src1.mono E5).ne nod
    have XB1 : XB s GB G6 := xb1.trans (XB.of E6)
    have hlE := XB1 _ _ nls hlD
    have helE := XB1 _ _ nes helD
    have hhdE := XB1 _ _ nhds hhdD
    have htlE := XB1 _ _ ntls htlD
    have hreE := tup_xb srcD hreD XB1
    have allE := allD.xb srcD XB1
    have srcE := src1.mono E6
    have XGE := XGD.trans XB1
    have hcE := E6 _ _ hc1
    have hccE := E6 _ _ hcc1
    clear dp dc qb gb3 lb3 lv3 hob hoc hpA hlB hlcc eG2 eG3 eG4 eG5 eG6 E5 E6 qab gab lab lv8 oallD qd1 md1 gv1 XB1 xb1 hlD helD hhdD htlD hreD allD srcD XGD hcD hccD hc1 hcc1 holD
    dsimp only [gName]
    show tSeq _ _ _ [_, _, _, _, _, _, _, _, _, _, _, _, _, _, _, _, _, _] _
    refine ⟨_, rfl, l, rfl, ⟨_, SqL.of hlE⟩, fun D hD => ?_⟩
    have nD : D ≠ s := srcE.ne hD
    have b5 : ∀ n ∈ ns, n.natAbs < 2 ^ 5000 := fun m hm => by
      have h1 := nb m hm
      have h2 := ok.one m hm
      exact Nat.lt_of_le_of_lt (show m.natAbs ≤ 10 ^ 21 by omega) (by decide +kernel)
    refine lc_it (walk_list (xs := ns.map V.int)) (fun j H2 => ∃ ps : List Int, H2 D = some (.lst (ps.map V.int)) ∧ SeatOk (ns.take j) ps ∧ XB s G6 H2 ∧ Src H2 s) ⟨[], upd_same, True.intro, XB.of (exn hD), srcE.new hD⟩ (fun i H2 _ ⟨ps, _, _, xb, _⟩ => SqL.of (xb _ _ nls hlE)) ?_ ?_
    · rintro j x _ H2 hj ⟨ps, hD2, sk, xb, src⟩ ⟨rfl, hx⟩
      obtain ⟨m, hm, rfl⟩ := map_get hx
      have n1 := ok.one m (List.mem_of_getElem? hm)
      refine ⟨rfl, _, rfl, _, rfl, s, m, rfl, src, by omega, lt_pow (b5 m (List.mem_of_getElem? hm)) (by decide), fun r H4 r0 r1 xb4 src4 => ?_⟩
      refine ⟨ps.map V.int, xb4 _ _ nD hD2, ?_, ps ++ [r], ?_, ?_, (xb.trans xb4).app hD, src4.app nD⟩
      · have := sk.len
        rw [List.length_take] at this
        rw [List.length_map]
        exact Nat.lt_of_le_of_lt (show ps.length ≤ 4 by omega) (by decide)
      · rw [upd_same, List.map_append]
        rfl
      · rw [take_more hm]
        exact sk.snoc r0 r1
    rintro G7 ⟨fs, hD7, skf, xb7, src7⟩
    rw [List.length_map, List.take_length] at skf
    refine ⟨D, _, rfl, .inl ⟨SqL.of hD7, ?_⟩⟩
    (intro fr nfr; generalize hGfr : upd _ fr _ = G8; have eG8 := exG hGfr nfr; have hfr := atG hGfr; clear hGfr)
    have hl8 := eG8 _ _ (xb7 _ _ nls hlE)
    have hcc8 := eG8 _ _ (tup_xb srcE hccE xb7)
    have hod8 := eG8 _ _ (xb7 _ _ nod hod)
    have lf := skf.len
    dsimp only [gName]
    show tSeq _ _ _ [_, _, _, _, _, _, _, _, _, _, _, _, _, _, _, _, _, _] _
    refine ⟨_, rfl, _, rfl, slen rfl, ?_⟩
    (intro z1 nz1; generalize hGz1 : upd _ z1 _ = G9; have eG9 := exG hGz1 nz1; have hz1 := atG hGz1; clear hGz1)
    refine ⟨_, rfl, l, _, rfl, .inl (SqL.of (eG9 _ _ hl8)), rep_ints hz1 (by rw [List.length_map]; omega) (by rw [List.length_map]; omega) fun z2 GA eA hz2 => ⟨slen rfl, ?_⟩⟩
    (intro pa npa; generalize hGpa : upd _ pa _ = GB; have eGB := exG hGpa npa; have hpa := atG hGpa; clear hGpa)
    rw [List.length_map, show ((ns.length : Nat) : Int).toNat = ns.length from rfl] at hz2
    have EB := ext eG9 (ext eA eGB)
    have hlB := EB _ _ hl8
    refine ⟨_, rfl, _, rfl, l, rfl, ⟨_, SqL.of hlB⟩, fun D2 hD2 => ?_⟩
    refine lc_vals (walk_list (xs := ns.map V.int)) ((ns.map (fun n => n / 2)).map V.int) (by rw [List.length_map, List.length_map, List.length_map]) (by rw [List.length_map]; omega) hD2 (fun Hx e => SqL.of (e _ _ hlB)) ?_ gmono_name ?_
    · rintro i x Ha Hb R hi e ⟨rfl, hx⟩ kk
      obtain ⟨m, hm, rfl⟩ := map_get hx
      refine ⟨rfl, _, rfl, _, _, rfl, rfl, ⟨by decide, by decide +kernel⟩, kk _ _ exr ?_⟩
      rw [List.getElem?_map, List.getElem?_map, hm]
      rfl
    intro GC eC hDC
    refine ⟨D2, _, rfl, .inl ⟨SqL.of hDC, ?_⟩⟩
    (intro hv nhv; generalize hGhv : upd _ hv _ = GD; have eGD := exG hGhv nhv; have hhv := atG hGhv; clear hGhv)
    refine ⟨slen rfl, ?_⟩
    (intro pb npb; generalize hGpb : upd _ pb _ = GE1; have eGE1 := exG hGpb npb; have hpb := atG hGpb; clear hGpb)
    refine ⟨_, rfl, _, rfl, slen rfl, ?_⟩
    (intro pc npc; generalize hGpc : upd _ pc _ = GF; have eGF := exG hGpc npc; have hpc := atG hGpc; clear hGpc)
    refine ⟨slen rfl, ?_⟩
    (intro l3 nl3; generalize hGl3 : upd _ l3 _ = GG; have eGG := exG hGl3 nl3; have hl3 := atG hGl3; clear hGl3)
    refine ⟨l3, 2, _, rfl, rfl, hl3, by decide, by decide, by show 3 * 2 ≤ sizeLine; decide, ?_⟩
    (intro l6 nl6; generalize hGl6 : upd _ l6 _ = GH; have eGH := exG hGl6 nl6; have hl6 := atG hGl6; clear hGl6)
    rw [show (List.replicate (2 : Int).toNat [V.ref pa, .ref pb, .ref pc]).flatten = [V.ref pa, .ref pb, .ref pc] ++ [V.ref pa, .ref pb, .ref pc] from rfl] at hl6
    have EL := ext eGD (ext eGE1 (ext eGF (ext eGG eGH)))
    have EH := ext EB (ext eC EL)
    have df : Dq (· ≠ s) GH (.ref fr) (iT fs) := Dq.ints (EH _ _ hfr)
    have dc : Dq (· ≠ s) GH (.ref cc) (iT (c0 :: ct)) := Dq.ints (EH _ _ hcc8)
    have dz : Dq (· ≠ s) GH (.ref z2) (iT (List.replicate ns.length 0)) := Dq.ints ((ext eGB (ext eC EL)) _ _ hz2)
    have dh : Dq (· ≠ s) GH (.ref hv) (iT (ns.map fun n => n / 2)) := Dq.ints ((ext eGE1 (ext eGF (ext eGG eGH))) _ _ hhv)
    have qb : DqAll (· ≠ s) GH [V.ref pa, .ref pb, .ref pc] [.tuple [iT fs, iT (List.replicate ns.length 0)], .tuple [iT fs, iT (ns.map fun n => n / 2)], .tuple [iT fs, iT (c0 :: ct)]] :=
      .cons (.tup ((ext eC EL) _ _ hpa) (.cons df (.cons dz .nil))) (.cons (.tup ((ext eGF (ext eGG eGH)) _ _ hpb) (.cons df (.cons dh .nil))) (.cons (.tup ((ext eGG eGH) _ _ hpc) (.cons df (.cons dc .nil))) .nil))
    have gb3 : ∀ d ∈ [PyData.tuple [iT fs, iT (List.replicate ns.length 0)], .tuple [iT fs, iT (ns.map fun n => n / 2)], .tuple [iT fs, iT (c0 :: ct)]], GE (n + 1) d := fun d hd => by
      have lf5 : fs.length ≤ 5 := by omega
      simp only [List.mem_cons, List.not_mem_nil, or_false] at hd
      rcases hd with rfl | rfl | rfl
      · refine pair_ent lf5 (by rw [List.length_replicate]; omega) (g300 skf) (fun x hx => ?_) (by omega)
        rw [List.eq_of_mem_replicate hx]
        exact Nat.zero_le _
      · refine pair_ent lf5 (by rw [List.length_map]; omega) (g300 skf) (fun x hx => ?_) (by omega)
        obtain ⟨m, hm, rfl⟩ := List.mem_map.mp hx
        have h1 := nb m hm
        have h2 := ok.one m hm
        have h3 : (10 : Nat) ^ 21 ≤ 10 ^ 42 := by decide
        omega
      · exact pair_ent lf5 (by rw [List.length_cons]; omega) (g300 skf) (fun x hx => Nat.le_trans (cb0 x hx) (by omega)) (by omega)
    have lb3 : ([PyData.tuple [iT fs, iT (List.replicate ns.length 0)], .tuple [iT fs, iT (ns.map fun n => n / 2)], .tuple [iT fs, iT (c0 :: ct)]]).length = 3 := rfl
    generalize [PyData.tuple [iT fs, iT (List.replicate ns.length 0)], .tuple [iT fs, iT (ns.map fun n => n / 2)], .tuple [iT fs, iT (c0 :: ct)]] = qs3 at qb gb3 lb3
    generalize [V.ref pa, .ref pb, .ref pc] = vs3 at qb hl6
    have lv3 : vs3.length = 3 := by rw [qb.len, lb3]
    refine ⟨od, l6, _, _, rfl, rfl, SqL.of (EH _ _ hod8), SqL.of hl6, by rw [List.length_append, lv11, lv3]; decide, ?_⟩
    (intro oe noe; generalize hGoe : upd _ oe _ = GI; have eGI := exG hGoe noe; have hoe := atG hGoe; clear hGoe)
    have EI := ext EH eGI
    have XB2 : XB s G6 GI := xb7.trans (XB.of (ext eG8 EI))
    have qfin := (qcd.xb srcE XB2).app ((qb.mono eGI).app (qb.mono eGI))
    have gfin : ∀ d ∈ qs11 ++ (qs3 ++ qs3), GE (n + 1) d := fun d hd => by
      simp only [List.mem_append, or_self] at hd
      rcases hd with h | h
      · exact gcd d h
      · exact gb3 d h
    have lfin : (qs11 ++ (qs3 ++ qs3)).length = 17 := by rw [List.length_append, List.length_append, lcd, lb3]
    generalize qs11 ++ (qs3 ++ qs3) = qs at qfin gfin lfin
    generalize vs11 ++ (vs3 ++ vs3) = vs at qfin hoe
    have lvs : vs.length = 17 := by rw [qfin.len, lfin]
    have srcF := src7.mono (ext eG8 EI)
    have noe : oe ≠ s := (src7.mono (ext eG8 EH)).ne noe
    have helF := XB2 _ _ nes helE
    have hhdF := XB2 _ _ nhds hhdE
    have htlF := XB2 _ _ ntls htlE
    have hreF := tup_xb srcE hreE XB2
    have allF := allE.xb srcE XB2
    have XGF := XGE.trans XB2
    clear dz dh df dc qb gb3 lb3 lv3 hl6 hl3 hpa hpb hpc hhv hDC hz1 hz2 eGD eGE1 eGF eGG eGH EL EH EI eGI eC eGB eA eG9 eG8 EB XB2 qcd gcd lcd lv11 hod hod8 hfr hD7 xb7 src7 hlB hl8 hcc8 hlE helE hhdE htlE hreE allE srcE XGE hcE hccE skf lf
    dsimp only [gName]
    show tSeq _ _ _ [_, _, _, _, _, _, _, _, _, _, _, _, _, _, _, _, _, _] _
    obtain ⟨e2, he2, qe2⟩ := allF.get hev
    obtain rfl : e2 = e := Option.some.inj (he2.symm.trans hej)
    have jl : j < es.length := (List.getElem?_eq_some_iff.mp he2).1
    have lxs2 : xs.length = es.length := allF.len
    have geA : ∀ d ∈ es, GE (n + 1) d := fun d hd => ⟨(ents d hd).1, (ents d hd).2.up (Nat.le_succ n)⟩
    have geT : ∀ d ∈ es.take j, GE (n + 1) d := fun d hd => geA d (List.mem_of_mem_take hd)
    have geD : ∀ d ∈ es.drop (j + 1), GE (n + 1) d := fun d hd => geA d (List.mem_of_mem_drop hd)
    have ltk : (es.take j).length = j := by rw [List.length_take]; omega
    have ldr : (es.drop (j + 1)).length = es.length - (j + 1) := List.length_drop
    have ltk2 : (xs.take j).length = j := by rw [List.length_take]; omega
    have ldr2 : (xs.drop (j + 1)).length = xs.length - (j + 1) := List.length_drop
    have sl40 : ∀ k : Nat, k ≤ 100 → k ≤ sizeLine := fun k h => Nat.le_trans h (by decide)
    have aT := allF.take j
    have aD := allF.drop (j + 1)
    refine ⟨_, rfl, _, rfl, hd, tl, _, _, rfl, rfl, SqL.of hhdF, SqL.of htlF, sl40 _ (by omega), ?_⟩
    (intro s1 ns1; generalize hGs1 : upd _ s1 _ = G1; have eG1 := exG hGs1 ns1; have hs1 := atG hGs1; clear hGs1)
    refine ⟨_, rfl, _, rfl, _, rfl, slen rfl, ?_⟩
    (intro k2 nk2; generalize hGk2 : upd _ k2 _ = G2; have eG2 := exG hGk2 nk2; have hk2 := atG hGk2; clear hGk2)
    refine ⟨hd, k2, _, _, rfl, rfl, SqL.of ((ext eG1 eG2) _ _ hhdF), SqL.of hk2, sl40 _ (by simp; omega), ?_⟩
    (intro m2 nm2; generalize hGm2 : upd _ m2 _ = G3; have eG3 := exG hGm2 nm2; have hm2 := atG hGm2; clear hGm2)
    have E3 := ext eG1 (ext eG2 eG3)
    refine ⟨_, rfl, m2, tl, _, _, rfl, rfl, SqL.of hm2, SqL.of (E3 _ _ htlF), sl40 _ (by simp; omega), ?_⟩
    (intro s2 ns2; generalize hGs2 : upd _ s2 _ = G4; have eG4 := exG hGs2 ns2; have hs2 := atG hGs2; clear hGs2)
    refine ⟨_, rfl, _, rfl, slen rfl, ?_⟩
    (intro k3 nk3; generalize hGk3 : upd _ k3 _ = G5; have eG5 := exG hGk3 nk3; have hk3 := atG hGk3; clear hGk3)
    have E5 := ext E3 (ext eG4 eG5)
    refine ⟨tl, k3, _, _, rfl, rfl, SqL.of (E5 _ _ htlF), SqL.of hk3, sl40 _ (by simp; omega), ?_⟩
    (intro m3 nm3; generalize hGm3 : upd _ m3 _ = G6; have eG6 := exG hGm3 nm3; have hm3 := atG hGm3; clear hGm3)
    refine ⟨_, rfl, m3, hd, _, _, rfl, rfl, SqL.of hm3, SqL.of ((ext E5 eG6) _ _ hhdF), sl40 _ (by simp; omega), ?_⟩
    (intro s3 ns3; generalize hGs3 : upd _ s3 _ = G7; have eG7 := exG hGs3 ns3; have hs3 := atG hGs3; clear hGs3)
    have E7 := ext E5 (ext eG6 eG7)
    refine ⟨_, rfl, el, _, rfl, .inl ⟨SqL.of (E7 _ _ helF), ?_⟩⟩
    (intro s4 ns4; generalize hGs4 : upd _ s4 _ = G8; have eG8 := exG hGs4 ns4; have hs4 := atG hGs4; clear hGs4)
    refine ⟨slen rfl, ?_⟩
    (intro os nos; generalize hGos : upd _ os _ = G9; have eG9 := exG hGos nos; have hos := atG hGos; clear hGos)
    have E9 := ext E7 (ext eG8 eG9)
    have ns1 : s1 ≠ s := srcF.ne ns1
    have ns2 : s2 ≠ s := (srcF.mono E3).ne ns2
    have ns3 : s3 ≠ s := (srcF.mono (ext E5 eG6)).ne ns3
    have nos : os ≠ s := (srcF.mono (ext E7 eG8)).ne nos
    have src9 := srcF.mono E9
    have X9 := XGF.trans (XB.of E9)
    have hd9 := E9 _ _ hhdF
    have tl9 := E9 _ _ htlF
    have oe9 := E9 _ _ hoe
    have aT9 := aT.mono E9
    have aD9 := aD.mono E9
    have qe9 := qe2.mono E9
    have q9 := qfin.mono E9
    have qs9 : DqAll (· ≠ s) G9 [V.ref s1, .ref s2, .ref s3, .ref s4] [.list (es.take j ++ es.drop (j + 1)), .list ((es.take j ++ [e2, e2]) ++ es.drop (j + 1)), .list ((es.drop (j + 1) ++ [e2]) ++ es.take j), .tuple es] :=
      .cons (.lst ((ext (ext eG2 eG3) (ext (ext eG4 eG5) (ext (ext eG6 eG7) (ext eG8 eG9)))) _ _ hs1) ns1 (aT9.app aD9)) (.cons (.lst ((ext eG5 (ext (ext eG6 eG7) (ext eG8 eG9))) _ _ hs2) ns2 ((aT9.app (.cons qe9 (.cons qe9 .nil))).app aD9)) (.cons (.lst ((ext eG8 eG9) _ _ hs3) ns3 ((aD9.app (.cons qe9 .nil)).app aT9)) (.cons (.tup (eG9 _ _ hs4) (allF.mono E9)) .nil)))
    have gs4 : ∀ d ∈ [PyData.list (es.take j ++ es.drop (j + 1)), .list ((es.take j ++ [e2, e2]) ++ es.drop (j + 1)), .list ((es.drop (j + 1) ++ [e2]) ++ es.take j), .tuple es], Pln (n + 1) d := fun d hd => by
      have gee := geA e2 me
      simp only [List.mem_cons, List.not_mem_nil, or_false] at hd
      rcases hd with rfl | rfl | rfl | rfl
      · refine pln_list (by rw [List.length_append]; omega) (by omega) fun d hd => ?_
        rcases List.mem_append.mp hd with h | h
        · exact geT d h
        · exact geD d h
      · refine pln_list (by rw [List.length_append, List.length_append]; simp; omega) (by omega) fun d hd => ?_
        simp only [List.mem_append, List.mem_cons, List.not_mem_nil, or_false, or_self] at hd
        rcases hd with (h | rfl) | h
        · exact geT d h
        · exact gee
        · exact geD d h
      · refine pln_list (by rw [List.length_append, List.length_append]; simp; omega) (by omega) fun d hd => ?_
        simp only [List.mem_append, List.mem_cons, List.not_mem_nil, or_false, or_self] at hd
        rcases hd with (h | rfl) | h
        · exact geD d h
        · exact gee
        · exact geT d h
      · exact pln_tup (by omega) fun d hd => (geA d hd).1
    have ls4 : ([PyData.list (es.take j ++ es.drop (j + 1)), .list ((es.take j ++ [e2, e2]) ++ es.drop (j + 1)), .list ((es.drop (j + 1) ++ [e2]) ++ es.take j), .tuple es]).length = 4 := rfl
    generalize [PyData.list (es.take j ++ es.drop (j + 1)), .list ((es.take j ++ [e2, e2]) ++ es.drop (j + 1)), .list ((es.drop (j + 1) ++ [e2]) ++ es.take j), .tuple es] = ds4 at qs9 gs4 ls4
    generalize [V.ref s1, .ref s2, .ref s3, .ref s4] = vs4 at qs9 hos
    have lv4 : vs4.length = 4 := by rw [qs9.len, ls4]
    clear hs1 hs2 hs3 hs4 hk2 hm2 hk3 hm3 eG1 eG2 eG3 E3 eG4 eG5 E5 eG6 eG7 E7 eG8 eG9 E9 hhdF htlF hoe aT aD qe2 qfin allF helF hreF srcF XGF
    dsimp only [gName]
    show tSeq _ _ _ [_, _, _, _, _, _, _, _, _, _, _, _, _, _, _, _, _, _] _
    refine ⟨_, rfl, _, rfl, _, rfl, _, rfl, _, rfl, oe, _, rfl, .inl (SqL.of oe9), s, _, rfl, src9, by rw [lvs]; decide, by rw [lvs]; decide +kernel, fun r2 GJ r20 r21 xb2 src2 => ?_⟩
    obtain ⟨_, v2, d2, _, _, gv2, _, md2, qd2⟩ := q9.at r20 (by rw [lvs] at *; omega)
    have hdJ := xb2 _ _ nhds hd9
    have tlJ := xb2 _ _ ntls tl9
    refine ⟨oe, _, _, _, rfl, rfl, SqL.of (xb2 _ _ noe oe9), gv2, slen rfl, ?_⟩
    (intro k2 nk2; generalize hGk2 : upd _ k2 _ = G2; have eG2 := exG hGk2 nk2; have hk2 := atG hGk2; clear hGk2)
    refine ⟨hd, k2, _, _, rfl, rfl, SqL.of (eG2 _ _ hdJ), SqL.of hk2, sl40 _ (by simp; omega), ?_⟩
    (intro m2 nm2; generalize hGm2 : upd _ m2 _ = G3; have eG3 := exG hGm2 nm2; have hm2 := atG hGm2; clear hGm2)
    refine ⟨_, rfl, m2, tl, _, _, rfl, rfl, SqL.of hm2, SqL.of ((ext eG2 eG3) _ _ tlJ), sl40 _ (by simp; omega), ?_⟩
    (intro s5 ns5; generalize hGs5 : upd _ s5 _ = G4; have eG4 := exG hGs5 ns5; have hs5 := atG hGs5; clear hGs5)
    have ns5 : s5 ≠ s := (src2.mono (ext eG2 eG3)).ne ns5
    refine ⟨slen rfl, ?_⟩
    (intro l1 nl1; generalize hGl1 : upd _ l1 _ = G5; have eG5 := exG hGl1 nl1; have hl1 := atG hGl1; clear hGl1)
    refine ⟨l1, 5, _, rfl, rfl, hl1, by decide, by decide, by show 1 * 5 ≤ sizeLine; decide, ?_⟩
    (intro l5r nl5r; generalize hGl5r : upd _ l5r _ = G6; have eG6 := exG hGl5r nl5r; have hl5r := atG hGl5r; clear hGl5r)
    have E6 := ext eG2 (ext eG3 (ext eG4 (ext eG5 eG6)))
    rw [show (List.replicate (5 : Int).toNat [V.ref s5]).flatten = [V.ref s5, .ref s5, .ref s5, .ref s5, .ref s5] from rfl] at hl5r
    refine ⟨os, l5r, _, _, rfl, rfl, SqL.of (E6 _ _ (xb2 _ _ nos hos)), SqL.of hl5r, sl40 _ (by rw [lv4]; simp), ?_⟩
    (intro ot not; generalize hGot : upd _ ot _ = G7; have eG7 := exG hGot not; have hot := atG hGot; clear hGot)
    have E7 := ext E6 eG7
    have nots : ot ≠ s := (src2.mono E6).ne not
    have gd2 := gfin d2 md2
    have X7 := X9.trans (xb2.trans (XB.of E7))
    have aTJ := (aT9.xb src9 xb2).mono E7
    have aDJ := (aD9.xb src9 xb2).mono E7
    have q5 : Dq (· ≠ s) G7 (.ref s5) (.list ((es.take j ++ [d2]) ++ es.drop (j + 1))) := .lst ((ext eG5 (ext eG6 eG7)) _ _ hs5) ns5 ((aTJ.app (.cons ((qd2.xb src9 xb2).mono E7) .nil)).app aDJ)
    have p5 : Pln (n + 1) (.list ((es.take j ++ [d2]) ++ es.drop (j + 1))) := by
      refine pln_list (by rw [List.length_append, List.length_append]; simp; omega) (by omega) fun d hd => ?_
      simp only [List.mem_append, List.mem_cons, List.not_mem_nil, or_false] at hd
      rcases hd with (h | rfl) | h
      · exact geT d h
      · exact gd2
      · exact geD d h
    generalize PyData.list ((es.take j ++ [d2]) ++ es.drop (j + 1)) = d5 at q5 p5
    have qal := ((qs9.xb src9 xb2).mono E7).app (DqAll.cons q5 (.cons q5 (.cons q5 (.cons q5 (.cons q5 .nil)))))
    have gal : ∀ d ∈ ds4 ++ [d5, d5, d5, d5, d5], Pln (n + 1) d := fun d hd => by
      simp only [List.mem_append, List.mem_cons, List.not_mem_nil, or_false, or_self] at hd
      rcases hd with h | rfl
      · exact gs4 d h
      · exact p5
    have lal : (ds4 ++ [d5, d5, d5, d5, d5]).length = 9 := by rw [List.length_append, ls4]; rfl
    generalize ds4 ++ [d5, d5, d5, d5, d5] = dal at qal gal lal
    generalize vs4 ++ [V.ref s5, .ref s5, .ref s5, .ref s5, .ref s5] = val at qal hot
    have lval : val.length = 9 := by rw [qal.len, lal]
    have src7 := src2.mono E7
    dsimp only [gName]
    refine ⟨_, rfl, _, rfl, _, rfl, ot, _, rfl, .inl (SqL.of hot), s, _, rfl, src7, by rw [lval]; decide, by rw [lval]; decide +kernel, fun r3 GK r30 r31 xb3 src3 => ?_⟩
    obtain ⟨_, v3, d3, _, _, gv3, _, md3, qd3⟩ := qal.at r30 (by rw [lval] at *; omega)
    exact ⟨ot, _, _, _, rfl, rfl, SqL.of (xb3 _ _ nots hot), gv3, k v3 d3 GK (qd3.xb src7 xb3) (gal d3 md3) (X7.trans xb3) src3⟩
end

/-- what _law_said makes of its lambda -/
def TTsaid23 (C : Addr) : (XK → Hp → VK → Prop) → Hp → VK → Prop := fun tl H Q => tl (fun cls d G => cls = .ref C ∧ ∃ (dd : Addr) (i : Int), d = some dd ∧ G dd = some (.xd [("index", .int i)]) ∧ ∀ G2, Ex G G2 → Q (.int i) G2) H Q
section
variable {P : Program} {w : World} {K : PySem.W.Frag} {mg : Str → Option Value} {base : Heap}
theorem gives_law_said (T : TX K mg) (k : Nat) : CG.Gives P w K mg base k N_law_said "_law_said" "_law_ask" s_law_said T.f_law_said (TTsaid23 T.C_InvalidWitness) := by
  intro A outer cdg f s H Q Rd tl gd hr act here h
  refine ⟨_, (pss_one (ps_try_as1 (i := 1) rfl rfl sc_law_said.nd rfl rfl ⟨rfl, by decide, Or.inl T.m_InvalidWitness⟩ (fun W pn xe tk _ => pss_one (ps_ret (by exact (act W pn xe _ _ tk)))) (fun a oe cls d pn hz hf => pss_one (ps_ret (by exact (pe_ifExp (pt_val (pe_callB (r := CG.rIsET K cls d T.C_InvalidWitness a) (CG.call_isET T.xi_InvalidWitness hz hf) (by rfl) T.z_isinstance (by decide +kernel) (pa_cons (pv 1) (pa_cons (pe_tup (pa_cons (pe_glob (v := .ref T.C_InvalidSeat) rfl T.m_InvalidSeat rfl) (pa_cons (pe_glob (v := .ref T.C_InvalidTargets) rfl T.m_InvalidTargets rfl) pa_nil))) pa_nil)))) pe_str (pe_xf T.xf_InvalidWitness T.n_InvalidWitness_index hz hf (pv 1)))))))), ?_⟩
  refine ⟨rfl, here, _, ?_, h⟩
  rintro cls d G ⟨rfl, dd, i, rfl, hdd, k⟩
  refine ⟨T.em_InvalidWitness, fun a na => ?_⟩
  refine ⟨_, rfl, slen rfl, ?_⟩
  (intro tp ntp; generalize hGtp : upd _ tp _ = H4; have eH4 := exG hGtp ntp; have htp := atG hGtp; clear hGtp)
  refine ⟨tp, _, _, false, rfl, rfl, htp, .cons (.own _) (.cons (.own _) .nil), ⟨dd, _, rfl, eH4 _ _ hdd⟩, T.ki_InvalidWitness, _, rfl, itf rfl ?_⟩
  exact ⟨_, rfl, rfl, rfl, dd, _, _, rfl, eH4 _ _ hdd, rfl, k _ eH4⟩
end

/-! ### all but the source and the tables of code objects stays -/
def XN (s : Addr) (H H2 : Hp) : Prop := ∀ c o, c ≠ s → (∀ ps, o ≠ HO.tbl ps) → H c = some o → H2 c = some o
theorem XN.refl {s : Addr} {H : Hp} : XN s H H := fun _ _ _ _ h => h
theorem XN.trans {s : Addr} {H H1 H2 : Hp} (a : XN s H H1) (b : XN s H1 H2) : XN s H H2 := fun c o n t h => b c o n t (a c o n t h)
theorem XN.xb {s : Addr} {H H2 : Hp} (x : XB s H H2) : XN s H H2 := fun c o n _ h => x c o n h
theorem XN.of {s : Addr} {H H2 : Hp} (e : Ex H H2) : XN s H H2 := fun c o _ _ h => e c o h
theorem XN.en {s : Addr} {H H2 : Hp} (e : LamX.ExtN H H2) : XN s H H2 := fun c o _ t h => e c o h t
theorem XN.lst {s q : Addr} {H H2 : Hp} {xs : List V} (x : XN s H H2) (n : q ≠ s) (h : H q = some (.lst xs)) : H2 q = some (.lst xs) := x _ _ n (fun _ z => nomatch z) h
theorem XN.tup {s q : Addr} {H H2 : Hp} {xs : List V} (x : XN s H H2) (src : Src H s) (h : H q = some (.tup xs)) : H2 q = some (.tup xs) := x _ _ (fun z => by
  obtain ⟨_, _, _, e⟩ := src
  rw [z, e] at h
  cases h) (fun _ z => nomatch z) h
theorem XN.tab {C s q : Addr} {H H2 : Hp} {ns : List Int} (x : XN s H H2) (src : Src H s) (h : TabAt C H q ns) : TabAt C H2 q ns := by
  obtain ⟨dx, t, h1, h2⟩ := h
  exact ⟨dx, t, x _ _ (fun z => by
    obtain ⟨_, _, _, e⟩ := src
    rw [z, e] at h1
    cases h1) (fun _ z => nomatch z) h1, x.tup src h2⟩
theorem XN.rows {s q : Addr} {H H2 : Hp} {tss : List (List Int)} (x : XN s H H2) (src : Src H s) (n : q ≠ s) (h : RowsAt H q tss) : RowsAt H2 q tss := by
  obtain ⟨xs, h1, h2⟩ := h
  exact ⟨xs, x.lst n h1, h2.monoT fun _ _ z => x.tup src z⟩
theorem Src.en {s : Addr} {H H2 : Hp} (h : Src H s) (e : LamX.ExtN H H2) : Src H2 s := by
  obtain ⟨a, b, c, h⟩ := h
  exact ⟨a, b, c, e _ _ h (fun _ z => nomatch z)⟩
theorem Tabs.xb {s : Addr} {T : List (Addr × Str)} {H H2 : Hp} (t : LamX.Tabs T H) (src : Src H s) (x : XB s H H2) : LamX.Tabs T H2 := fun p hp => by
  obtain ⟨ps, h1, h2, h3⟩ := t p hp
  obtain ⟨_, _, _, hs⟩ := src
  refine ⟨ps, x _ _ (fun z => by rw [z, hs] at h1; cases h1) h1, h2, fun pos cv hc => ?_⟩
  obtain ⟨c, e1, e2⟩ := h3 pos cv hc
  exact ⟨c, e1, x _ _ (fun z => by rw [z, hs] at e2; exact nomatch (show HO.lst _ = HO.ext _ from Option.some.inj e2)) e2⟩
theorem Dq.xn {s : Addr} {H H2 : Hp} {v : V} {d : PyData} (src : Src H s) (x : XN s H H2) (q : Dq (· ≠ s) H v d) : Dq (· ≠ s) H2 v d := q.to (fun a xs b h => ⟨x.lst b h, b⟩) (fun a xs h => x.tup src h)
/-! ### results -/
def AtR (s : Addr) (H : Hp) (v : V) : Int ⊕ List (List Int × Nat) → Prop
  | .inl i => v = .int i
  | .inr zs => ∃ (f : Addr) (ys : List V), v = .ref f ∧ f ≠ s ∧ H f = some (.lst ys) ∧ Paired (PdS H) ys zs
def zD (z : List Int × Nat) : PyData := .tuple [iT z.1, .int (z.2 : Int)]
def resD : Int ⊕ List (List Int × Nat) → PyData
  | .inl i => .int i
  | .inr zs => .list (zs.map zD)
def isZ : Int ⊕ List (List Int × Nat) → Bool
  | .inl _ => false
  | .inr _ => true
def okD : Int ⊕ List (List Int × Nat) → PyData
  | .inl i => .int i
  | .inr _ => .none
def okR : Int ⊕ List (List Int × Nat) → V
  | .inl i => .int i
  | .inr _ => .non
theorem okR_dp {K : PySem.W.Frag} {H : Hp} (r : Int ⊕ List (List Int × Nat)) : Dp K H (okR r) (okD r) := by
  cases r with
  | inl i => exact .int i
  | inr zs => exact .non
theorem okD_sh (r : Int ⊕ List (List Int × Nat)) : Sh 50 (okD r) := by
  cases r with
  | inl i => exact sh_int i
  | inr zs => exact prt_none.sh.up (by decide)
theorem pds_dp {K : PySem.W.Frag} {H : Hp} : ∀ {ys : List V} {zs : List (List Int × Nat)}, Paired (PdS H) ys zs → DpAll K H ys (zs.map zD)
  | _, _, .nil => .nil
  | _, _, .cons ⟨r, c, e, h1, h2⟩ t => .cons (by rw [e]; exact .tup (SqT.of h1) (.cons (dp_ints h2) (.cons (.int _) .nil))) (pds_dp t)
theorem AtR.dp {K : PySem.W.Frag} {s : Addr} {H : Hp} {v : V} {r : Int ⊕ List (List Int × Nat)} (h : AtR s H v r) : Dp K H v (resD r) := by
  cases r with
  | inl i =>
    rw [show v = .int i from h]
    exact .int i
  | inr zs =>
    obtain ⟨f, ys, rfl, _, h1, h2⟩ := h
    exact .lst (SqL.of h1) (pds_dp h2)
theorem AtR.xn {s : Addr} {H H2 : Hp} {v : V} {r : Int ⊕ List (List Int × Nat)} (src : Src H s) (x : XN s H H2) (h : AtR s H v r) : AtR s H2 v r := by
  cases r with
  | inl i => exact h
  | inr zs =>
    obtain ⟨f, ys, rfl, n, h1, h2⟩ := h
    exact ⟨f, ys, rfl, n, x.lst n h1, paired_mono (fun v a q => pds_mono _ _ v a (fun c ws z => x.tup src z) q) h2⟩
theorem zD_sh (z : List Int × Nat) : Sh 5 (zD z) := by
  refine (sh_tuple (n := 3) fun e he => ?_).up (by decide)
  simp only [List.mem_cons, List.not_mem_nil, or_false] at he
  rcases he with rfl | rfl
  · exact sh_ints _
  · exact sh_int _
theorem resD_sh (r : Int ⊕ List (List Int × Nat)) : Sh 50 (resD r) := by
  cases r with
  | inl i => exact sh_int i
  | inr zs =>
    refine (sh_list (n := 5) fun d hd => ?_).up (by decide)
    obtain ⟨z, _, rfl⟩ := List.mem_map.mp hd
    exact zD_sh z
/-- the lists of entries that plans are -/
theorem plan_dq {s : Addr} {H : Hp} : ∀ {xs : List V} {es : List (List Int × List Int)}, Paired (PdE H) xs es → DqAll (· ≠ s) H xs (es.map dE)
  | _, _, .nil => .nil
  | _, _, .cons ⟨r, a, b, e, h1, h2, h3⟩ t => .cons (by rw [e]; exact .tup h1 (.cons (Dq.ints h2) (.cons (Dq.ints h3) .nil))) (plan_dq t)
theorem Dq.refN {B : Addr → Prop} {H : Hp} {v : V} {d : PyData} {n : Nat} (q : Dq B H v d) (p : Pln n d) : v = .non ∨ ∃ a, v = .ref a := by
  rcases p.kd with rfl | ⟨ds, rfl⟩ | ⟨ds, rfl⟩
  · cases q
    exact .inl rfl
  · cases q
    exact .inr ⟨_, rfl⟩
  · cases q
    exact .inr ⟨_, rfl⟩

section
variable {s l g a : Addr} {x : V} {q : Bool × Addr} {ns : List Int} {tss : List (List Int)} {d : PyData} {Q : VK} {E : XK} {H : Hp}
theorem due_use (src : Src H s) (hl : H l = some (.lst (ns.map V.int))) (ok : SzOk ns) (rg : RowsAt H g tss) (lt : tss.length ≤ 1000) (sks : ∀ ts ∈ tss, SeatOk ns ts) (nod : tss.Nodup) (dq : Dq (· ≠ s) H x d) (pT : PlanT d) (pS : ∀ ds, lstD d = some ds → ∀ e ∈ ds, ∀ es, tupD e = some es → ∀ b ∈ es, PartS b)
    (k : ∀ v H2, Ex H H2 → AtR s H2 v (planR ns tss d) → Q v H2) : sp_law_due [.ref l, .ref g, x] H Q E :=
  ⟨(· ≠ s), l, g, x, ns, tss, d, rfl, hl, ok, rg, lt, sks, nod, dq, pT, pS, fun i hi H2 e => k _ _ e (by rw [hi]; rfl), fun zs hz f ys H2 e nf hf py => k _ _ e (by rw [hz]; exact ⟨f, ys, rfl, src.ne nf, hf, py⟩)⟩
def RaisX (C : Addr) (Q : VK) : XK := fun cls d G => cls = .ref C ∧ ∃ (dd : Addr) (i : Int), d = some dd ∧ G dd = some (.xd [("index", .int i)]) ∧ ∀ G2, Ex G G2 → Q (.int i) G2
theorem plan_use {C CX : Addr} (src : Src H s) (tab : TabAt C H a ns) (ok : SzOk ns) (rg : RowsQ H q tss) (ne : tss ≠ []) (lt : tss.length ≤ 1000) (sks : ∀ ts ∈ tss, SeatOk ns ts) (nod : tss.Nodup) (dq : Dq (· ≠ s) H x d) (pT : PlanT d)
    (k : ∀ v H2, Ex H H2 → AtR s H2 v (planR ns tss d) → Q v H2) : spX_plan_depths C CX [.ref a, .ref q.2, x] H Q (RaisX CX Q) :=
  ⟨(· ≠ s), a, q, x, ns, tss, d, rfl, tab, ok, rg, ne, lt, sks, nod, dq, pT, fun i hi dd H2 e hd => ⟨rfl, dd, i, rfl, hd, fun G2 e2 => k _ _ (ext e e2) (by rw [hi]; rfl)⟩, fun zs hz f ys H2 e nf hf py => k _ _ e (by rw [hz]; exact ⟨f, ys, rfl, src.ne nf, hf, py⟩)⟩
theorem chk_use {C CX : Addr} (tab : TabAt C H a ns) (ok : SzOk ns) (rg : RowsQ H q tss) (ne : tss ≠ []) (lt : tss.length ≤ 1000) (sks : ∀ ts ∈ tss, SeatOk ns ts) (nod : tss.Nodup) (dq : Dq (· ≠ s) H x d) (pT : PlanT d)
    (k : ∀ H2, Ex H H2 → Q (okR (planR ns tss d)) H2) : spX_check_plan C CX [.ref a, .ref q.2, x] H Q (RaisX CX Q) :=
  ⟨(· ≠ s), a, q, x, ns, tss, d, rfl, tab, ok, rg, ne, lt, sks, nod, dq, pT, fun i hi dd H2 e hd => ⟨rfl, dd, i, rfl, hd, fun G2 e2 => by
    have := k G2 (ext e e2)
    rw [hi] at this
    exact this⟩, fun zs hz H2 e => by
    have := k H2 e
    rw [hz] at this
    exact this⟩
end

section
variable {P : Program} {w : World} {K : PySem.W.Frag} {mg : Str → Option Value} {base : Heap}

def lamQ : Str := "_law_is_right.<locals>.<lambda>"
def sp_law_is_right (PT : Addr) : Sp := fun vs H Q _ => ∃ (s : Addr), vs = [.ref s] ∧ Src H s ∧ LamX.Tabs [(PT, lamQ)] H ∧ ∀ H2, XN s H H2 → Src H2 s → LamX.Tabs [(PT, lamQ)] H2 → Q (.bl true) H2
theorem ok_law_is_right (T : TX K mg) (L : TL T base) : CG.FnOkG P w K mg base 11 T.f_law_is_right T.fd_law_is_right ["_law_source_here"] (sp_law_is_right L.p_law_is_right) := by
  refine CG.okGT T.F_law_is_right L.at_law_is_right sc_law_is_right (fun vs H Q E h => ?_) (fun A outer s H vs Q E gd hr h => ?_)
  · obtain ⟨s, rfl, _⟩ := h
    rfl
  · obtain ⟨s, rfl, src, tabs, k⟩ := h
    refine ⟨_, (pss_cons (ps_set (i := 1) sc_law_is_right.nd rfl (Or.inl rfl) (pe_call (ok_law_rings T) (hr.mono (by decide)) rfl T.m_law_rings T.F_law_rings.kp T.b_law_rings .nil pass0 (pa_cons (pv 0) (pa_cons pe_int pa_nil)))) (pss_cons (ps_if (pt_cmpR op_eq (pe_call (ok_law_draw T) (hr.mono (by decide)) rfl T.m_law_draw T.F_law_draw.kp T.b_law_draw .nil pass0 (pa_cons (pv 0) (pa_cons pe_int pa_nil))) pe_int (nomark _)) (pss_one (ps_setLc (own := [("_law_size", 13)]) (g := (gName 13)) (i := 1) rfl sc_law_is_right.nd rfl rfl (sw_true rfl rfl rfl (by decide +kernel)) (pi_list (pv 1)) (blkOk_by (N := N_law_is_right) (sc := defScope s_law_is_right) (by decide +kernel)) (fun _ _ _ _ _ => (pg_name (i := 13) sc_law_is_right.nd rfl (Or.inl rfl))) (fun _ _ _ _ _ => pts_nil) (fun _ _ _ _ _ => (pe_op op_add (pv 13) (pe_op op_mulI (pe_call (ok_law_draw T) (hr.mono (by decide)) rfl T.m_law_draw T.F_law_draw.kp T.b_law_draw .nil pass0 (pa_cons (pv 0) (pa_cons (pe_op op_pow pe_int pe_int) pa_nil))) (pe_op op_pow pe_int pe_int)))))) pss_nil) (pss_cons (ps_set (i := 2) sc_law_is_right.nd rfl (Or.inr rfl) (pe_call (ok_law_goals T) (hr.mono (by decide)) rfl T.m_law_goals T.F_law_goals.kp T.b_law_goals .nil pass0 (pa_cons (pv 0) (pa_cons (pv 1) pa_nil)))) (pss_cons (ps_set (i := 3) sc_law_is_right.nd rfl (Or.inl rfl) (pe_call (ok_law_plan T) (hr.mono (by decide)) rfl T.m_law_plan T.F_law_plan.kp T.b_law_plan .nil pass0 (pa_cons (pv 0) (pa_cons (pv 1) (pa_cons (pv 2) pa_nil))))) (pss_cons (ps_set (i := 4) sc_law_is_right.nd rfl (Or.inr rfl) (pe_make T.M_Table (ok_Table_init T) (hr.mono (by decide)) rfl T.m_Table T.b_Table_init .nil pass0 (pa_cons (pv 1) pa_nil))) (pss_cons (ps_for PassesOwn.never rfl (pi_range1 rfl T.z_range (pa_cons pe_int pa_nil)) (pg_name (i := 5) sc_law_is_right.nd rfl (Or.inl rfl)) (pss_cons (ps_set (i := 6) sc_law_is_right.nd rfl (Or.inr rfl) (pv 3)) (pss_cons (ps_for PassesOwn.never rfl (pi_range1 rfl T.z_range (pa_cons (pe_op op_add (pe_callB (call_min2 rfl) (by rfl) T.z_min (by decide +kernel) (pa_cons (pv 5) (pa_cons pe_int pa_nil))) (pe_callTy call_int1 (by rfl) T.z_int (by decide +kernel) (pa_cons (pe_cmpR op_gt (pv 5) pe_int (nomark _)) pa_nil))) pa_nil)) (pg_name (i := 7) sc_law_is_right.nd rfl (Or.inl rfl)) (pss_one (ps_set (i := 6) sc_law_is_right.nd rfl (Or.inr rfl) (pe_ifExp (pt_val (pe_callB call_isi (by rfl) T.z_isinstance (by decide +kernel) (pa_cons (pv 6) (pa_cons (pe_bltn (v := .ty "list") rfl T.z_list (by decide +kernel) rfl) pa_nil)))) (pe_call (ok_law_changed T) (hr.mono (by decide)) rfl T.m_law_changed T.F_law_changed.kp T.b_law_changed .nil pass0 (pa_cons (pv 0) (pa_cons (pv 1) (pa_cons (pv 2) (pa_cons (pv 6) pa_nil))))) (pv 6))))) (pss_cons (ps_par (i := 8) (j := 9) rfl sc_law_is_right.nd rfl rfl (by decide) rfl rfl (pa_cons (pe_call (ok_law_due T) (hr.mono (by decide)) rfl T.m_law_due T.F_law_due.kp T.b_law_due .nil pass0 (pa_cons (pv 1) (pa_cons (pv 2) (pa_cons (pv 6) pa_nil)))) (pa_cons (pe_callB (CG.cr_reprN gd (u65 hr)) (by rfl) T.z_repr (by decide +kernel) (pa_cons (pv 6) pa_nil)) pa_nil)) (by rfl)) (pss_cons (ps_set (i := 10) sc_law_is_right.nd rfl (Or.inl rfl) (CG.pe_said1 T.F_law_said T.b_law_said sc_law_said rfl T.m_law_said rfl (by exact Or.inl rfl) (gives_law_said T 8) gd hr L.tb_law_is_right rfl (fun A outer s H E f c hr => (pe_call (okX_plan_depths T) (hr.mono (by decide)) rfl T.m_plan_depths T.F_plan_depths.kp T.b_plan_depths .nil (passes_call (takes_of rfl rfl rfl rfl) (fun _ _ _ _ h => h)) (pa_cons (pv 4) (pa_cons (pv 2) (pa_cons (pv 6) pa_nil))))) (show LamX.LamS (defScope s_law_is_right) _ from LamX.lamS_by (by decide +kernel)))) (pss_cons (ps_set (i := 11) sc_law_is_right.nd rfl (Or.inl rfl) (CG.pe_said1 T.F_law_said T.b_law_said sc_law_said rfl T.m_law_said rfl (by exact Or.inl rfl) (gives_law_said T 8) gd hr L.tb_law_is_right rfl (fun A outer s H E f c hr => (pe_call (okX_check_plan T) (hr.mono (by decide)) rfl T.m_check_plan T.F_check_plan.kp T.b_check_plan .nil (passes_call (takes_of rfl rfl rfl rfl) (fun _ _ _ _ h => h)) (pa_cons (pv 4) (pa_cons (pe_callTy (r := rTupleQ K) call_tuple_of (by rfl) T.z_tuple (by decide +kernel) (pa_cons (pv 2) pa_nil)) (pa_cons (pv 6) pa_nil))))) (show LamX.LamS (defScope s_law_is_right) _ from LamX.lamS_by (by decide +kernel)))) (pss_cons (ps_set (i := 12) sc_law_is_right.nd rfl (Or.inl rfl) (CG.pe_said1 T.F_law_said T.b_law_said sc_law_said rfl T.m_law_said rfl (by exact Or.inl rfl) (gives_law_said T 8) gd hr L.tb_law_is_right rfl (fun A outer s H E f c hr => (pe_callKw (okX_plan_depths T) (hr.mono (by decide)) rfl T.m_plan_depths T.F_plan_depths.kp (kb_plan_depths_210 T) (passes_call (takes_of rfl rfl rfl rfl) (fun _ _ _ _ h => h)) (pk_cons (pv 6) (pk_cons (pe_callTy (r := rTupleQ K) call_tuple_of (by rfl) T.z_tuple (by decide +kernel) (pa_cons (pv 2) pa_nil)) (pk_cons (pv 4) pk_nil))))) (show LamX.LamS (defScope s_law_is_right) _ from LamX.lamS_by (by decide +kernel)))) (pss_cons (ps_if (PW.pt (pw_or (pt_cmpR (r := rNeD K) (op_neD hr.units) (pv 10) (pv 8) (nomark _)) (pw_or (pt_cmpR (r := rNeD K) (op_neD hr.units) (pv 12) (pv 8) (nomark _)) (pw_or1 (pt_cmpR op_ne (pe_callB (CG.cr_reprN gd (u65 hr)) (by rfl) T.z_repr (by decide +kernel) (pa_cons (pv 6) pa_nil)) (pv 9) (nomark _)))))) (pss_one (ps_ret pe_bl)) pss_nil) (pss_cons (ps_if (pt_cmpR (r := rNeD K) (op_neD hr.units) (pv 11) (pe_ifExp (pt_val (pe_callB call_isi (by rfl) T.z_isinstance (by decide +kernel) (pa_cons (pv 8) (pa_cons (pe_bltn (v := .ty "list") rfl T.z_list (by decide +kernel) rfl) pa_nil)))) pe_non (pv 8)) (nomark _)) (pss_one (ps_ret pe_bl)) pss_nil) (pss_one (ps_if (PW.pt (pw_and (pt_cmpR op_eq (pv 5) pe_int (nomark _)) (pw_and1 (pt_not (pt_val (pe_callB call_isi (by rfl) T.z_isinstance (by decide +kernel) (pa_cons (pv 8) (pa_cons (pe_bltn (v := .ty "list") rfl T.z_list (by decide +kernel) rfl) pa_nil)))))))) (pss_one (ps_ret pe_bl)) pss_nil))))))))))) (pss_one (ps_ret pe_bl)))))))), ?_⟩
    refine ⟨_, rfl, s, 30, rfl, src, by decide, by decide, fun l0 ns0 H1 nl0 hl0 ok0 pr0 xb1 src1 => ?_⟩
    dsimp only [gName]
    have nl0s : l0 ≠ s := src.ne nl0
    have tabs1 := Tabs.xb tabs src xb1
    have b30 : ∀ n ∈ ns0, n ≤ 30 := fun n hn => by
      obtain ⟨i, hi⟩ := List.getElem?_of_mem hn
      exact Int.le_trans (mul_le_prod ok0.one hi) pr0
    refine sif_cut (R := fun σ Hx => ∃ (l : Addr) (ns : List Int) (y : Option V), σ = [some (.ref s), some (.ref l), none, none, none, none, none, none, none, none, none, none, none, y] ∧ l ≠ s ∧ Hx l = some (.lst (ns.map V.int)) ∧ SzOk ns ∧ (∀ n ∈ ns, n ≤ 10 ^ 21) ∧ XB s H Hx ∧ Src Hx s) ?cond ?rest
    · intro N hN
      refine ⟨_, rfl, s, 4, rfl, src1, by decide, by decide +kernel, fun r H2 r0 r1 xb2 src2 => ?_⟩
      refine ⟨rfl, _, rfl, ite2 (fun c1 => ?_) (fun c1 => hN _ _ ⟨l0, ns0, _, rfl, nl0s, xb2 _ _ nl0s hl0, ok0, (fun n hn => Int.le_trans (b30 n hn) (by decide)), xb1.trans xb2, src2⟩)⟩
      have hl2 := xb2 _ _ nl0s hl0
      refine ⟨_, rfl, l0, rfl, ⟨_, SqL.of hl2⟩, fun D hD => ?_⟩
      have nD : D ≠ s := src2.ne hD
      refine lc_it (walk_list (xs := ns0.map V.int)) (fun j H3 => ∃ ms : List Int, H3 D = some (.lst (ms.map V.int)) ∧ ms.length = j ∧ (∀ n ∈ ms, 1 ≤ n ∧ n ≤ 10 ^ 21) ∧ XB s H2 H3 ∧ Src H3 s) ⟨[], upd_same, rfl, (fun n hn => nomatch hn), XB.of (exn hD), src2.new hD⟩ (fun i H3 _ ⟨ps, _, _, _, xb, _⟩ => SqL.of (xb _ _ nl0s hl2)) ?_ ?_
      · rintro j x _ H3 hj ⟨ms, hD3, lm, bm, xb3, src3⟩ ⟨rfl, hx⟩
        obtain ⟨m, hm, rfl⟩ := map_get hx
        have n1 := ok0.one m (List.mem_of_getElem? hm)
        have n2 := b30 m (List.mem_of_getElem? hm)
        refine ⟨rfl, _, rfl, ?_⟩
        (repeat (first | refine ⟨rfl, ?_⟩ | refine ⟨_, rfl, ?_⟩ | refine ⟨_, _, rfl, rfl, ?_⟩ | refine ⟨_, _, rfl, ?_⟩ | refine ⟨slen rfl, ?_⟩ | refine ⟨⟨by decide, by decide +kernel⟩, ?_⟩ | refine ⟨⟨by decide, by decide, by decide⟩, ?_⟩ | refine ⟨(by show (0 : Int) < _; first | decide | assumption | omega), ?_⟩ | refine ⟨mul_ok (by first | exact .inr (by decide) | exact .inl (by decide)), ?_⟩))
        refine ⟨src3, by decide, by decide +kernel, fun r3 H4 r30 r31 xb4 src4 => ?_⟩
        (repeat (first | refine ⟨rfl, ?_⟩ | refine ⟨_, rfl, ?_⟩ | refine ⟨_, _, rfl, rfl, ?_⟩ | refine ⟨_, _, rfl, ?_⟩ | refine ⟨slen rfl, ?_⟩ | refine ⟨⟨by decide, by decide +kernel⟩, ?_⟩ | refine ⟨⟨by decide, by decide, by decide⟩, ?_⟩ | refine ⟨(by show (0 : Int) < _; first | decide | assumption | omega), ?_⟩ | refine ⟨mul_ok (by first | exact .inr (by decide) | exact .inl (by decide)), ?_⟩))
        refine ⟨ms.map V.int, xb4 _ _ nD hD3, ?_, ms ++ [m + r3 * 10 ^ 11], ?_, ?_, ?_, (xb3.trans xb4).app hD, src4.app nD⟩
        · have hj2 : j < (ns0.map V.int).length := hj
          rw [List.length_map] at hj2 ⊢
          have := ok0.le
          exact Nat.lt_of_le_of_lt (show ms.length ≤ 4 by omega) (by decide)
        · rw [upd_same, List.map_append]
          rfl
        · rw [List.length_append, lm]
          rfl
        · intro n hn
          have e9 : (10 : Int) ^ Int.toNat 9 = 1000000000 := by decide
          rw [e9] at r31
          have e11 : (10 : Int) ^ 11 = 100000000000 := by decide
          have e21 : (10 : Int) ^ 21 = 1000000000000000000000 := by decide
          rw [e11] at hn
          rcases List.mem_append.mp hn with hn | hn
          · exact bm n hn
          · rw [List.mem_singleton.mp hn, e21]
            omega
      · rintro H3 ⟨ms, hD3, lm, bm, xb3, src3⟩
        rw [List.length_map] at lm
        have l4 := ok0.le
        refine hN _ _ ⟨D, ms, _, rfl, nD, hD3, ⟨fun z => ?_, by omega, fun n hn => (bm n hn).1⟩, fun n hn => (bm n hn).2, xb1.trans (xb2.trans xb3), src3⟩
        rw [z] at lm
        exact ok0.pos (List.length_eq_zero_iff.mp lm.symm)
    · rintro σ2 H2 ⟨l, ns, y, rfl, nls, hl, ok, nb, xb2, src2⟩
      have tabs2 := Tabs.xb tabs src xb2
      have l4 := ok.le
      have b5 : ∀ n ∈ ns, n.natAbs < 2 ^ 5000 := fun m hm => by
        have h1 := nb m hm
        have h2 := ok.one m hm
        exact Nat.lt_of_le_of_lt (show m.natAbs ≤ 10 ^ 21 by omega) (by decide +kernel)
      refine ⟨_, rfl, _, rfl, s, l, ns, rfl, src2, hl, nls, ok, b5, fun g tss H3 rg ng ngs tne lt4 sks nod xb3 src3 => ?_⟩
      dsimp only [gName]
      have hl3 := xb3 _ _ nls hl
      refine ⟨_, rfl, _, rfl, _, rfl, s, l, g, ns, tss, rfl, src3, hl3, nls, ok, nb, rg, ngs, tne, by omega, sks, fun el es xs H4 nel hel pe le va cb xb4 src4 => ?_⟩
      dsimp only [gName]
      have hl4 := xb4 _ _ nls hl3
      have nes : el ≠ s := src3.ne nel
      refine ⟨_, rfl, ?_⟩
      refine mk_tab (b := false) (show SqH H4 (false, l) _ from hl4) ok fun bd H5 e5 nbd tab => ?_
      dsimp only [gName]
      show tSeq _ _ _ [_, _, _, _, _, _, _, _, _, _, _, _, _, _] _
      have src5 := src4.mono e5
      have rg5 : RowsAt H5 g tss := by
        obtain ⟨vs, h1, h2⟩ := rg
        exact ⟨vs, e5 _ _ (xb4 _ _ ngs h1), (h2.monoT fun _ _ z => e5 _ _ (tup_xb src3 z xb4))⟩
      have hl5 := e5 _ _ hl4
      have tabs5 := LamX.Tabs.ext (Tabs.xb (Tabs.xb tabs2 src2 xb3) src3 xb4) e5
      have X5 : XB s H H5 := xb2.trans (xb3.trans (xb4.trans (XB.of e5)))
      have good : Dq (· ≠ s) H5 (.ref el) (.list (es.map dE)) := (Dq.lst hel nes (plan_dq pe)).mono e5
      have gpl : Pln 10 (.list (es.map dE)) := by
        refine pln_list (by rw [List.length_map]; exact le) (by decide) fun d hd => ?_
        obtain ⟨e, he, rfl⟩ := List.mem_map.mp hd
        obtain ⟨h1, h2⟩ := valid_seat va e he
        refine pair_ent (by rw [h1.len]; omega) (by omega) (fun x hx => ?_) (fun x hx => Nat.le_trans (cb e he x hx) (by omega)) (by decide)
        exact Nat.lt_of_le_of_lt (seat_abs2 h1 nb x hx) (by decide)
      have gval : planR ns tss (.list (es.map dE)) = .inr (numsL ns (atD 0 tss ++ []) es) := goP_valid (zs := []) (kn := tss) (by rw [List.append_nil, keys_atD]) va
      clear hl4 hl3 hl rg hel pe cb va le src2 src3 src4 xb3 xb4 xb2 xb1 e5 tabs2 tabs1 tabs hl0 pr0 src1 b30 b5 nel ng ok0 nl0 nl0s
      refine ⟨8, rfl, by decide, by decide, ?_⟩
      refine for_it walk_range (fun i σ Hx => (∃ y5 y6 y7 y8 y9 y10 y11 y12 y13 : Option V, σ = [some (.ref s), some (.ref l), some (.ref g), some (.ref el), some (.ref bd), y5, y6, y7, y8, y9, y10, y11, y12, y13]) ∧ XN s H5 Hx ∧ Src Hx s ∧ LamX.Tabs [(L.p_law_is_right, lamQ)] Hx) ⟨⟨_, _, _, _, _, _, _, _, _, rfl⟩, XN.refl, src5, tabs5⟩ (fun _ _ _ _ _ => True.intro) ?_ ?_
      rotate_left
      · rintro σ Hx ⟨⟨y5, y6, y7, y8, y9, y10, y11, y12, y13, rfl⟩, xn, srcx, tx⟩
        exact k _ ((XN.xb X5).trans xn) srcx tx
      rintro i x σ _ Hx hi ⟨⟨y5, y6, y7, y8, y9, y10, y11, y12, y13, rfl⟩, xn, srcx, tx⟩ ⟨rfl, hx⟩
      obtain rfl : x = .int (i : Int) := hx.trans (congrArg V.int (Int.zero_add _))
      have hi8 : i < 8 := hi
      dsimp only [gName]
      show tSeq _ _ _ [_, _, _, _, _, _, _, _, _, _, _, _, _, _] _
      refine ⟨_, rfl, ?_⟩
      dsimp only [gName]
      show tSeq _ _ _ [_, _, _, _, _, _, _, _, _, _, _, _, _, _] _
      (repeat (first | refine ⟨rfl, ?_⟩ | refine ⟨_, rfl, ?_⟩ | refine ⟨_, _, rfl, rfl, ?_⟩ | refine ⟨_, _, rfl, ?_⟩ | refine ⟨slen rfl, ?_⟩ | refine ⟨⟨by decide, by decide +kernel⟩, ?_⟩ | refine ⟨⟨by decide, by decide, by decide⟩, ?_⟩ | refine ⟨(by show (0 : Int) < _; first | decide | assumption | omega), ?_⟩ | refine ⟨mul_ok (by first | exact .inr (by decide) | exact .inl (by decide)), ?_⟩))
      refine .inr ⟨_, rfl, _, _, rfl, rfl, _, rfl, (by split <;> split <;> omega), (by split <;> split <;> omega), ?_⟩
      have hn0 : (if (1 : Int) < (i : Int) then (1 : Int) else (i : Int)) + (if decide ((5 : Int) < (i : Int)) = true then 1 else 0) ≤ 2 ∧ (i = 0 → (if (1 : Int) < (i : Int) then (1 : Int) else (i : Int)) + (if decide ((5 : Int) < (i : Int)) = true then 1 else 0) = 0) := by
        constructor
        · split <;> split <;> omega
        · intro z
          subst z
          rfl
      generalize (if (1 : Int) < (i : Int) then (1 : Int) else (i : Int)) + (if decide ((5 : Int) < (i : Int)) = true then 1 else 0) = nn at hn0 ⊢
      refine for_it walk_range (fun j σ Hy => (∃ (x : V) (d : PyData) (y7 : Option V), σ = [some (.ref s), some (.ref l), some (.ref g), some (.ref el), some (.ref bd), some (.int (i : Int)), some x, y7, y8, y9, y10, y11, y12, y13] ∧ Dq (· ≠ s) Hy x d ∧ Pln (10 + j) d ∧ (j = 0 → planR ns tss d = .inr (numsL ns (atD 0 tss ++ []) es))) ∧ XB s Hx Hy ∧ Src Hy s) ⟨⟨_, _, _, rfl, good.xn src5 xn, gpl, fun _ => gval⟩, XB.refl, srcx⟩ (fun _ _ _ _ _ => True.intro) ?_ ?_
      · rintro j x σ _ Hy hj ⟨⟨xe, d, y7, rfl, dq, pl, _⟩, xby, srcy⟩ ⟨rfl, hx⟩
        obtain rfl : x = .int (j : Int) := hx.trans (congrArg V.int (Int.zero_add _))
        have hj2 : j < nn.toNat := hj
        have j2 : j < 2 := by omega
        dsimp only [gName]
        obtain ⟨ty, hty, hkit⟩ := dq.isL (K := K)
        have xnY := xn.trans (XN.xb xby)
        have keep : planR ns tss d = planR ns tss d → ∀ v d2 H2, Dq (· ≠ s) H2 v d2 → Pln (10 + (j + 1)) d2 → XB s Hy H2 → Src H2 s → (∃ (x : V) (d : PyData) (y7 : Option V), [some (V.ref s), some (V.ref l), some (V.ref g), some (V.ref el), some (V.ref bd), some (V.int (i : Int)), some v, some (V.int (j : Int)), y8, y9, y10, y11, y12, y13] = [some (.ref s), some (.ref l), some (.ref g), some (.ref el), some (.ref bd), some (.int (i : Int)), some x, y7, y8, y9, y10, y11, y12, y13] ∧ Dq (· ≠ s) H2 x d ∧ Pln (10 + (j + 1)) d ∧ (j + 1 = 0 → planR ns tss d = .inr (numsL ns (atD 0 tss ++ []) es))) ∧ XB s Hx H2 ∧ Src H2 s :=
          fun _ v d2 H2 q p xb sr => ⟨⟨v, d2, _, rfl, q, p, fun z => nomatch z⟩, xby.trans xb, sr⟩
        replace keep := keep rfl
        refine ⟨_, rfl, _, _, _, _, _, rfl, .ty _, hty, hkit, _, rfl, ?_⟩
        cases el2 : lstD d with
        | none =>
          refine itf rfl ?_
          refine ⟨_, rfl, keep _ _ _ dq ?_ XB.refl srcy⟩
          exact ⟨pl.shw, pl.sh, pl.kd, fun ds e => by rw [el2] at e; cases e⟩
        | some ds =>
        obtain ⟨a2, xs2, rfl, ha2, na2, all2⟩ := dq.lstA el2
        have en := pl.ents ds el2
        refine itt rfl ?_
        refine ⟨_, rfl, _, rfl, _, rfl, _, rfl, s, l, g, a2, ns, tss, xs2, ds, 10 + j, rfl, srcy, xnY.lst nls hl5, nls, ok, nb, xnY.rows src5 ngs rg5, ngs, tne, by omega, sks, ha2, na2, all2, en.2, en.1, by omega, fun v d2 H2 q p xb sr => ?_⟩
        exact keep v d2 H2 q p xb sr
      rintro σ Hy ⟨⟨xe, d, y7, rfl, dq, pl, pv0⟩, xby, srcy⟩
      have xnY := xn.trans (XN.xb xby)
      have tabsY := Tabs.xb tx srcx xby
      have pl12 : Pln 12 d := ⟨pl.shw, pl.sh, pl.kd, fun ds e => ⟨Nat.le_trans (pl.ents ds e).1 (by show 10 + nn.toNat ≤ 12; omega), fun e2 he => ⟨((pl.ents ds e).2 e2 he).1, ((pl.ents ds e).2 e2 he).2.up (by show 10 + nn.toNat ≤ 12; omega)⟩⟩⟩
      have pval : i = 0 → planR ns tss d = .inr (numsL ns (atD 0 tss ++ []) es) := fun z => pv0 (by show nn.toNat = 0; rw [hn0.2 z]; rfl)
      generalize hR : planR ns tss d = R at pval
      have pT := pl12.planT (by decide)
      have hlY := xnY.lst nls hl5
      have rgY := xnY.rows src5 ngs rg5
      have tabY := xnY.tab src5 tab
      refine ⟨_, rfl, _, rfl, _, rfl, ?_⟩
      dsimp only [tNil, List.append_nil]
      refine due_use srcy hlY ok rgY (by omega) sks nod dq pT pl12.parts fun vd Hd ed av => ?_
      rw [hR] at av
      have dqd := dq.mono ed
      have shw := pl12.shw
      refine ⟨_, rfl, xe, d, rfl, dq.refN pl12, dqd.dp, shw.1, shw.2.1, Nat.le_trans shw.2.2 (by decide), Nat.le_trans pl12.sh.2 (by decide), ?_⟩
      have srcd := srcy.mono ed
      have rgd := rgY.mono ed
      have tabd := tabY.mono ed
      refine ⟨_, _, rfl, ?_⟩
      show tSeq _ _ _ [_, _, _, _, _, _, _, _, _, _, _, _, _, _] _
      refine ⟨tabsY.ext ed, fun G1 eN1 tG1 => ?_⟩
      have xn1 : XN s Hd G1 := XN.en eN1
      have src1 := srcd.en eN1
      have rg1 : RowsQ G1 (false, g) tss := xn1.rows srcd ngs rgd
      refine ⟨_, rfl, _, rfl, _, rfl, ?_⟩
      dsimp only [tNil, List.append_nil]
      refine plan_use (q := (false, g)) src1 (xn1.tab srcd tabd) ok rg1 tne (by omega) sks nod (dqd.xn srcd xn1) pT fun v1 H2 e2 a1 => ?_
      rw [hR] at a1
      have xn2 := xn1.trans (XN.of e2)
      have src2 := src1.mono e2
      dsimp only [gName]
      show tSeq _ _ _ [_, _, _, _, _, _, _, _, _, _, _, _, _, _] _
      refine ⟨tG1.ext e2, fun G3 eN3 tG3 => ?_⟩
      have xn3 := xn2.trans (XN.en eN3)
      have src3 := src2.en eN3
      obtain ⟨gs3, hg3, rr3⟩ : RowsAt G3 g tss := xn3.rows srcd ngs rgd
      refine ⟨_, rfl, _, rfl, g, _, rfl, .inl ⟨SqL.of hg3, fun tq ntq => ?_⟩⟩
      generalize hG : upd G3 tq _ = G4
      have e4 := exG hG ntq
      have htq := atG hG
      clear hG
      have xn4 := xn3.trans (XN.of e4)
      have rg4 : RowsQ G4 (true, tq) tss := ⟨gs3, htq, rr3.mono e4⟩
      refine ⟨_, rfl, ?_⟩
      dsimp only [tNil, List.append_nil]
      refine chk_use (s := s) (q := (true, tq)) (xn4.tab srcd tabd) ok rg4 tne (by omega) sks nod (dqd.xn srcd xn4) pT fun H5x e5x => ?_
      rw [hR]
      have src5x := (src3.mono e4).mono e5x
      have xn5 := xn4.trans (XN.of e5x)
      dsimp only [gName]
      show tSeq _ _ _ [_, _, _, _, _, _, _, _, _, _, _, _, _, _] _
      refine ⟨(tG3.ext e4).ext e5x, fun G6 eN6 tG6 => ?_⟩
      have xn6 := xn5.trans (XN.en eN6)
      have src6 := src5x.en eN6
      obtain ⟨gs6, hg6, rr6⟩ : RowsAt G6 g tss := xn6.rows srcd ngs rgd
      refine ⟨_, rfl, _, rfl, g, _, rfl, .inl ⟨SqL.of hg6, fun tr ntr => ?_⟩⟩
      generalize hG : upd G6 tr _ = G7
      have e7 := exG hG ntr
      have htr := atG hG
      clear hG
      have xn7 := xn6.trans (XN.of e7)
      have rg7 : RowsQ G7 (true, tr) tss := ⟨gs6, htr, rr6.mono e7⟩
      refine ⟨_, rfl, rfl, ?_⟩
      show spX_plan_depths _ _ [_, _, _] _ _ _
      refine plan_use (s := s) (q := (true, tr)) (src6.mono e7) (xn7.tab srcd tabd) ok rg7 tne (by omega) sks nod (dqd.xn srcd xn7) pT fun v3 H8 e8 a3 => ?_
      rw [hR] at a3
      have xn8 := xn7.trans (XN.of e8)
      have src8 := (src6.mono e7).mono e8
      have tabs8 := (tG6.ext e7).ext e8
      have av8 := av.xn srcd xn8
      have a18 : AtR s H8 v1 R := a1.xn src2 ((XN.en eN3).trans ((XN.of e4).trans ((XN.of e5x).trans ((XN.en eN6).trans ((XN.of e7).trans (XN.of e8))))))
      have dq8 := dqd.xn srcd xn8
      have fin : XN s H5 H8 := xnY.trans ((XN.of ed).trans xn8)
      dsimp only [gName]
      show tSeq _ _ _ [_, _, _, _, _, _, _, _, _, _, _, _, _, _] _
      have rs := (resD_sh R).up (show 50 ≤ 60 by decide)
      have same : (!PyData.eqv (resD R) (resD R)) = false := by rw [eqv_same rs]
      clear xn1 xn2 xn3 xn4 xn5 xn6 xn7 src1 src2 src3 src5x src6 rg1 rg4 rg7 tG1 tG3 tG6 eN1 eN3 eN6 e2 e4 e5x e7 e8 htq htr hg3 hg6 rr3 rr6
      refine ⟨_, rfl, _, rfl, _, _, a18.dp, av8.dp, rs.ok, rs.ok, _, rfl, itf same ?_⟩
      refine ⟨_, rfl, _, rfl, _, _, a3.dp, av8.dp, rs.ok, rs.ok, _, rfl, itf same ?_⟩
      refine ⟨_, rfl, xe, d, rfl, dq8.refN pl12, dq8.dp, shw.1, shw.2.1, Nat.le_trans shw.2.2 (by decide), Nat.le_trans pl12.sh.2 (by decide), _, rfl, rfl, ?_⟩
      refine ⟨_, rfl, itf (by simp) ?_⟩
      dsimp only [tNext]
      obtain ⟨ty, bb, hty, hkit, hbb⟩ : ∃ ty bb, TyX K H8 vd ty ∧ PySem.W.kitOne K ty (.type "list") = some bb ∧ bb = isZ R := by
        cases R with
        | inl j =>
          exact ⟨_, false, (by rw [show vd = .int j from av8]; exact .base (.int j)), kit_ty (r := false) (by decide +kernel), rfl⟩
        | inr zs =>
          obtain ⟨f, ys, rfl, _, h1, _⟩ := av8
          exact ⟨_, true, .base (.lst h1), kit_ty (r := true) (by decide +kernel), rfl⟩
      have rs2 := (okD_sh R).up (show 50 ≤ 60 by decide)
      have same2 : (!PyData.eqv (okD R) (okD R)) = false := by rw [eqv_same rs2]
      have fin2 : ∀ y5 y6 y7 y8 y9 y10 y11 y12 y13 : Option V, (∃ z5 z6 z7 z8 z9 z10 z11 z12 z13 : Option V, [some (V.ref s), some (V.ref l), some (V.ref g), some (V.ref el), some (V.ref bd), y5, y6, y7, y8, y9, y10, y11, y12, y13] = [some (.ref s), some (.ref l), some (.ref g), some (.ref el), some (.ref bd), z5, z6, z7, z8, z9, z10, z11, z12, z13]) ∧ XN s H5 H8 ∧ Src H8 s ∧ LamX.Tabs [(L.p_law_is_right, lamQ)] H8 := fun y5 y6 y7 y8 y9 y10 y11 y12 y13 => ⟨⟨_, _, _, _, _, _, _, _, _, rfl⟩, fin, src8, tabs8⟩
      refine ⟨_, rfl, _, rfl, _, _, _, _, _, rfl, .ty _, hty, hkit, _, rfl, ?_⟩
      cases R with
      | inl j =>
        obtain rfl : vd = .int j := av8
        subst hbb
        refine itf rfl ?_
        refine ⟨_, rfl, _, _, okR_dp (.inl j), okR_dp (.inl j), rs2.ok, rs2.ok, _, rfl, itf same2 ?_⟩
        have i0 : i ≠ 0 := fun z => nomatch pval z
        dsimp only [tNext]
        refine ⟨_, rfl, rfl, _, rfl, itf (decide_eq_false (by simp; omega)) ?_⟩
        exact itf rfl (fin2 _ _ _ _ _ _ _ _ _)
      | inr zs =>
        subst hbb
        refine itt rfl ?_
        refine ⟨_, _, okR_dp (.inr zs), okR_dp (.inr zs), rs2.ok, rs2.ok, _, rfl, itf same2 ?_⟩
        dsimp only [tNext]
        refine ⟨_, rfl, rfl, _, rfl, ?_⟩
        by_cases i0 : i = 0
        · refine itt (decide_eq_true (by rw [i0]; rfl)) ?_
          refine ⟨_, rfl, _, _, _, _, _, rfl, .ty _, hty, hkit, _, rfl, itf rfl ?_⟩
          exact fin2 _ _ _ _ _ _ _ _ _
        · refine itf (decide_eq_false (by simp; omega)) ?_
          exact itf rfl (fin2 _ _ _ _ _ _ _ _ _)
end

section
variable {P : Program} {w : World} {K : PySem.W.Frag} {mg : Str → Option Value} {base : Heap}
/-- a cut list of ints is one -/
theorem cut_ints (ns : List Int) (lo hi : Option Int) : ∃ ms : List Int, cutV (ns.map V.int ++ [V.int 0]) lo hi = ms.map V.int := by
  refine ⟨((ns ++ [0]).drop (HT.sIx (ns.map V.int ++ [V.int 0]).length 0 lo)).take (HT.sIx (ns.map V.int ++ [V.int 0]).length (ns.map V.int ++ [V.int 0]).length hi - HT.sIx (ns.map V.int ++ [V.int 0]).length 0 lo), ?_⟩
  unfold cutV
  rw [List.map_take, List.map_drop, List.map_append]
  rfl
end
theorem cut_of (ns : List Int) (lo hi : Option Int) : ∃ ms : List Int, cutV (ns.map V.int) lo hi = ms.map V.int ∧ ms.length ≤ ns.length := by
  refine ⟨(ns.drop (HT.sIx (ns.map V.int).length 0 lo)).take (HT.sIx (ns.map V.int).length (ns.map V.int).length hi - HT.sIx (ns.map V.int).length 0 lo), ?_, ?_⟩
  · unfold cutV
    rw [List.map_take, List.map_drop]
  · rw [List.length_take, List.length_drop]
    omega

section
variable {P : Program} {w : World} {K : PySem.W.Frag} {mg : Str → Option Value} {base : Heap}
def sp_law (K : PySem.W.Frag) (PT : Addr) : Sp := fun vs H Q _ => ∃ (a : Addr) (ns : List Int), vs = [.ref a] ∧ SqL K H a (ns.map V.int) ∧ ns.length ≤ 63 ∧ H PT = some (.tbl #[]) ∧ ∀ H2, Q (.bl true) H2
theorem ok_law (T : TX K mg) (L : TL T base) : CG.FnOkG P w K mg base 12 T.f_law T.fd_law ["_law_script"] (sp_law K L.p_law_is_right) := by
  refine CG.okG T.F_law sc_law (fun vs H Q E h => ?_) (fun cdv A outer s H vs Q E gd hr h => ?_)
  · obtain ⟨a, ns, rfl, _⟩ := h
    rfl
  · obtain ⟨a, ns, rfl, hS, hlen, htb, k⟩ := h
    refine ⟨_, (pss_cons (ps_for PassesOwn.never rfl (pi_list (pe_op (r := rCatR K) op_catR (pe_lst (pa_cons pe_int pa_nil)) (pe_slice sl_list (pv 0) po_none (po_some pe_int)))) (pg_name (i := 1) sc_law.nd rfl (Or.inl rfl)) (pss_one (ps_if (pt_not (pt_val (CG.pe_callG (ok_law_is_right T L) gd hr rfl T.m_law_is_right T.F_law_is_right.kp T.b_law_is_right .nil pass0 (pa_cons (pe_call (ok_law_source T) (hr.mono (by decide)) rfl T.m_law_source T.F_law_source.kp T.b_law_source .nil pass0 (pa_cons (pv 1) pa_nil)) pa_nil)))) (pss_one (ps_ret pe_bl)) pss_nil))) (pss_one (ps_ret pe_bl))), ?_⟩
    refine ⟨by show 1 ≤ sizeLine; decide, fun b hb => ?_⟩
    have e1 := exn (o := .lst [.int 0]) hb
    obtain ⟨ms, em, lm⟩ := cut_of ns none (some 4)
    refine ⟨_, rfl, 4, rfl, a, _, rfl, Evl.ex_l e1 hS, fun c hc => ?_⟩
    rw [em]
    have e2 := exn (o := .lst (ms.map V.int)) hc
    refine ⟨b, c, _, _, rfl, rfl, SqL.of (e2 _ _ upd_same), SqL.of upd_same, ?_, fun d hd => ?_⟩
    · rw [List.length_map]
      exact Nat.le_trans (Nat.add_le_add_left (Nat.le_trans lm hlen) 1) (by decide)
    have e3 := exn (o := .lst ([V.int 0] ++ ms.map V.int)) hd
    have htd := e3 _ _ (e2 _ _ (e1 _ _ htb))
    refine ⟨d, rfl, ⟨_, SqL.of upd_same⟩, ?_⟩
    rw [show [V.int 0] ++ ms.map V.int = ((0 :: ms).map V.int) from rfl] at *
    generalize 0 :: ms = us at *
    refine for_it (walk_list (xs := us.map V.int)) (fun i σ H => (∃ y, σ = [some (.ref a), y]) ∧ H d = some (.lst (us.map V.int)) ∧ LamX.Tabs [(L.p_law_is_right, lamQ)] H) ⟨⟨_, rfl⟩, upd_same, fun p hp => by rw [List.mem_singleton.mp hp]; exact LamX.TabS.nil htd⟩ (fun i σ H _ p => SqL.of p.2.1) ?_ (fun σ H p => k _)
    rintro i x σ _ H1 hi ⟨⟨y, rfl⟩, hd1, tb1⟩ ⟨rfl, hx⟩
    obtain ⟨n, _, rfl⟩ := map_get hx
    refine ⟨_, rfl, n, rfl, fun H2 s e2 hs src => ?_⟩
    have nds : d ≠ s := ne_of_none hd1 hs
    refine ⟨s, rfl, src, tb1.ext e2, fun H3 xn src3 tb3 => ?_⟩
    refine ⟨_, rfl, itf rfl ?_⟩
    exact ⟨⟨_, rfl⟩, xn.lst nds (e2 _ _ hd1), tb3⟩
end

theorem all_mk {K : PySem.W.Frag} {h : Heap} {mg : Str → Option Value} (X : K.In h) (G : h.Ns mainGlobals mg)
    {f0 f1 f2 f3 f4 f5 f6 f7 f8 f9 f10 f11 f12 f13 f14 f15 f16 f17 f18 f19 f20 f21 f22 f23 f24 f25 f26 f27 f28 f29 f30 f31 f32 f33 f34 f35 f36 f37 C_InvalidWitness C_Table C_InvalidSeat C_InvalidTargets : Addr}
    {od0 an0 od1 an1 od2 an2 od3 an3 od4 an4 od5 an5 od6 an6 od7 an7 od8 an8 od9 an9 od10 an10 od11 an11 od12 an12 od13 an13 od14 an14 od15 an15 od16 an16 od17 an17 od18 an18 od19 an19 od20 an20 od21 an21 od22 an22 od23 an23 od24 an24 od25 an25 od26 an26 od27 an27 od28 an28 od29 an29 od30 an30 od31 an31 od32 an32 od33 an33 od34 an34 od35 an35 od36 an36 od37 an37 : Option Addr} {sl0 sl1 sl2 sl3 sl4 sl5 sl6 sl7 sl8 sl9 sl10 sl11 sl12 sl13 sl14 sl15 sl16 sl17 sl18 sl19 sl20 sl21 sl22 sl23 sl24 sl25 sl26 sl27 sl28 sl29 sl30 sl31 sl32 sl33 sl34 sl35 sl36 sl37 : Array (Option Value)} {oc0 kV0 dc0 pm0 cd0 ct0 oc1 kV1 dc1 pm1 cd1 ct1 oc2 kV2 dc2 pm2 cd2 ct2 oc3 kV3 dc3 pm3 cd3 ct3 oc4 kV4 dc4 pm4 cd4 ct4 oc5 kV5 dc5 pm5 cd5 ct5 oc6 kV6 dc6 pm6 cd6 ct6 oc7 kV7 dc7 pm7 cd7 ct7 oc8 kV8 dc8 pm8 cd8 ct8 oc9 kV9 dc9 pm9 cd9 ct9 oc10 kV10 dc10 pm10 cd10 ct10 oc11 kV11 dc11 pm11 cd11 ct11 oc12 kV12 dc12 pm12 cd12 ct12 oc13 kV13 dc13 pm13 cd13 ct13 oc14 kV14 dc14 pm14 cd14 ct14 oc15 kV15 dc15 pm15 cd15 ct15 oc16 kV16 dc16 pm16 cd16 ct16 oc17 kV17 dc17 pm17 cd17 ct17 oc18 kV18 dc18 pm18 cd18 ct18 oc19 kV19 dc19 pm19 cd19 ct19 oc20 kV20 dc20 pm20 cd20 ct20 oc21 kV21 dc21 pm21 cd21 ct21 oc22 kV22 dc22 pm22 cd22 ct22 oc23 kV23 dc23 pm23 cd23 ct23 oc24 kV24 dc24 pm24 cd24 ct24 oc25 kV25 dc25 pm25 cd25 ct25 oc26 kV26 dc26 pm26 cd26 ct26 oc27 kV27 dc27 pm27 cd27 ct27 oc28 kV28 dc28 pm28 cd28 ct28 oc29 kV29 dc29 pm29 cd29 ct29 oc30 kV30 dc30 pm30 cd30 ct30 oc31 kV31 dc31 pm31 cd31 ct31 oc32 kV32 dc32 pm32 cd32 ct32 oc33 kV33 dc33 pm33 cd33 ct33 oc34 kV34 dc34 pm34 cd34 ct34 oc35 kV35 dc35 pm35 cd35 ct35 oc36 kV36 dc36 pm36 cd36 ct36 oc37 kV37 dc37 pm37 cd37 ct37 : Value}
    {nm_InvalidWitness q_InvalidWitness : Str} {N_InvalidWitness B_InvalidWitness : Addr} {bs_InvalidWitness sub_InvalidWitness : List Value} {sn_InvalidWitness : List Str} {ab_InvalidWitness : Bool} {col_InvalidWitness : Option Bool} {dd_InvalidWitness : Option Addr} {m0_InvalidWitness m1_InvalidWitness m2_InvalidWitness m3_InvalidWitness m5_InvalidWitness : Option Value}
    {t_MAX_RINGS : Tok}
    (aC_InvalidSeat : PySem.W.nsIn K mainGlobals "InvalidSeat" = some (some (.ref C_InvalidSeat)))
    (ex_InvalidSeat : PySem.W.subIn K (.ref C_InvalidSeat) (.type "BaseException") = some true)
    (ty_InvalidSeat : PySem.W.typeIn K (.ref C_InvalidSeat) = some (.type "type"))
    (il_InvalidSeat : PySem.W.isClsIn K C_InvalidSeat = true)
    (aC_InvalidTargets : PySem.W.nsIn K mainGlobals "InvalidTargets" = some (some (.ref C_InvalidTargets)))
    (ex_InvalidTargets : PySem.W.subIn K (.ref C_InvalidTargets) (.type "BaseException") = some true)
    (ty_InvalidTargets : PySem.W.typeIn K (.ref C_InvalidTargets) = some (.type "type"))
    (il_InvalidTargets : PySem.W.isClsIn K C_InvalidTargets = true)
    (aC_InvalidWitness : PySem.W.nsIn K mainGlobals "InvalidWitness" = some (some (.ref C_InvalidWitness)))
    (aC_Table : PySem.W.nsIn K mainGlobals "Table" = some (some (.ref C_Table)))
    (a0 : PySem.W.nsIn K mainGlobals "_wall" = some (some (.ref f0)))
    (l0 : K.lookup f0 = some ⟨oc0, od0, .func (PySem.W.fnOf "_wall" "_wall" (defArgs s_wall) (defBody s_wall) (defScope s_wall) .none kV0 dc0 pm0 an0 cd0 ct0), sl0⟩)
    (c0 : PySem.W.codeIn K cd0 "_wall" = true)
    (k0 : PySem.W.keepIn K (.ref f0) = true)
    (a1 : PySem.W.findIn K (.ref C_InvalidWitness) "__init__" = some (some (.ref f1)))
    (i1 : PySem.W.isFn K (.ref f1) = true)
    (l1 : K.lookup f1 = some ⟨oc1, od1, .func (PySem.W.fnOf "__init__" "InvalidWitness.__init__" (defArgs s_InvalidWitness_init) (defBody s_InvalidWitness_init) (defScope s_InvalidWitness_init) .none kV1 dc1 pm1 an1 cd1 ct1), sl1⟩)
    (c1 : PySem.W.codeIn K cd1 "InvalidWitness.__init__" = true)
    (k1 : PySem.W.keepIn K (.ref f1) = true)
    (a2 : PySem.W.nsIn K mainGlobals "is_integer" = some (some (.ref f2)))
    (l2 : K.lookup f2 = some ⟨oc2, od2, .func (PySem.W.fnOf "is_integer" "is_integer" (defArgs s_is_integer) (defBody s_is_integer) (defScope s_is_integer) .none kV2 dc2 pm2 an2 cd2 ct2), sl2⟩)
    (c2 : PySem.W.codeIn K cd2 "is_integer" = true)
    (k2 : PySem.W.keepIn K (.ref f2) = true)
    (a3 : PySem.W.nsIn K mainGlobals "is_at_least" = some (some (.ref f3)))
    (l3 : K.lookup f3 = some ⟨oc3, od3, .func (PySem.W.fnOf "is_at_least" "is_at_least" (defArgs s_is_at_least) (defBody s_is_at_least) (defScope s_is_at_least) .none kV3 dc3 pm3 an3 cd3 ct3), sl3⟩)
    (c3 : PySem.W.codeIn K cd3 "is_at_least" = true)
    (k3 : PySem.W.keepIn K (.ref f3) = true)
    (a4 : PySem.W.nsIn K mainGlobals "is_between" = some (some (.ref f4)))
    (l4 : K.lookup f4 = some ⟨oc4, od4, .func (PySem.W.fnOf "is_between" "is_between" (defArgs s_is_between) (defBody s_is_between) (defScope s_is_between) .none kV4 dc4 pm4 an4 cd4 ct4), sl4⟩)
    (c4 : PySem.W.codeIn K cd4 "is_between" = true)
    (k4 : PySem.W.keepIn K (.ref f4) = true)
    (a5 : PySem.W.findIn K (.ref C_Table) "__init__" = some (some (.ref f5)))
    (i5 : PySem.W.isFn K (.ref f5) = true)
    (l5 : K.lookup f5 = some ⟨oc5, od5, .func (PySem.W.fnOf "__init__" "Table.__init__" (defArgs s_Table_init) (defBody s_Table_init) (defScope s_Table_init) .none kV5 dc5 pm5 an5 cd5 ct5), sl5⟩)
    (c5 : PySem.W.codeIn K cd5 "Table.__init__" = true)
    (k5 : PySem.W.keepIn K (.ref f5) = true)
    (a6 : PySem.W.findIn K (.ref C_Table) "sizes" = some (some (.ref f6)))
    (i6 : PySem.W.isFn K (.ref f6) = true)
    (l6 : K.lookup f6 = some ⟨oc6, od6, .func (PySem.W.fnOf "sizes" "Table.sizes" (defArgs s_Table_sizes) (defBody s_Table_sizes) (defScope s_Table_sizes) .none kV6 dc6 pm6 an6 cd6 ct6), sl6⟩)
    (c6 : PySem.W.codeIn K cd6 "Table.sizes" = true)
    (k6 : PySem.W.keepIn K (.ref f6) = true)
    (a7 : PySem.W.findIn K (.ref C_Table) "count" = some (some (.ref f7)))
    (i7 : PySem.W.isFn K (.ref f7) = true)
    (l7 : K.lookup f7 = some ⟨oc7, od7, .func (PySem.W.fnOf "count" "Table.count" (defArgs s_Table_count) (defBody s_Table_count) (defScope s_Table_count) .none kV7 dc7 pm7 an7 cd7 ct7), sl7⟩)
    (c7 : PySem.W.codeIn K cd7 "Table.count" = true)
    (k7 : PySem.W.keepIn K (.ref f7) = true)
    (a8 : PySem.W.findIn K (.ref C_Table) "is_seat" = some (some (.ref f8)))
    (i8 : PySem.W.isFn K (.ref f8) = true)
    (l8 : K.lookup f8 = some ⟨oc8, od8, .func (PySem.W.fnOf "is_seat" "Table.is_seat" (defArgs s_Table_is_seat) (defBody s_Table_is_seat) (defScope s_Table_is_seat) .none kV8 dc8 pm8 an8 cd8 ct8), sl8⟩)
    (c8 : PySem.W.codeIn K cd8 "Table.is_seat" = true)
    (k8 : PySem.W.keepIn K (.ref f8) = true)
    (a9 : PySem.W.findIn K (.ref C_Table) "is_call" = some (some (.ref f9)))
    (i9 : PySem.W.isFn K (.ref f9) = true)
    (l9 : K.lookup f9 = some ⟨oc9, od9, .func (PySem.W.fnOf "is_call" "Table.is_call" (defArgs s_Table_is_call) (defBody s_Table_is_call) (defScope s_Table_is_call) .none kV9 dc9 pm9 an9 cd9 ct9), sl9⟩)
    (c9 : PySem.W.codeIn K cd9 "Table.is_call" = true)
    (k9 : PySem.W.keepIn K (.ref f9) = true)
    (a10 : PySem.W.findIn K (.ref C_Table) "shifted" = some (some (.ref f10)))
    (i10 : PySem.W.isFn K (.ref f10) = true)
    (l10 : K.lookup f10 = some ⟨oc10, od10, .func (PySem.W.fnOf "shifted" "Table.shifted" (defArgs s_Table_shifted) (defBody s_Table_shifted) (defScope s_Table_shifted) .none kV10 dc10 pm10 an10 cd10 ct10), sl10⟩)
    (c10 : PySem.W.codeIn K cd10 "Table.shifted" = true)
    (k10 : PySem.W.keepIn K (.ref f10) = true)
    (a11 : PySem.W.findIn K (.ref C_Table) "moves" = some (some (.ref f11)))
    (i11 : PySem.W.isFn K (.ref f11) = true)
    (l11 : K.lookup f11 = some ⟨oc11, od11, .func (PySem.W.fnOf "moves" "Table.moves" (defArgs s_Table_moves) (defBody s_Table_moves) (defScope s_Table_moves) .none kV11 dc11 pm11 an11 cd11 ct11), sl11⟩)
    (c11 : PySem.W.codeIn K cd11 "Table.moves" = true)
    (k11 : PySem.W.keepIn K (.ref f11) = true)
    (a12 : PySem.W.findIn K (.ref C_Table) "step" = some (some (.ref f12)))
    (i12 : PySem.W.isFn K (.ref f12) = true)
    (l12 : K.lookup f12 = some ⟨oc12, od12, .func (PySem.W.fnOf "step" "Table.step" (defArgs s_Table_step) (defBody s_Table_step) (defScope s_Table_step) .none kV12 dc12 pm12 an12 cd12 ct12), sl12⟩)
    (c12 : PySem.W.codeIn K cd12 "Table.step" = true)
    (k12 : PySem.W.keepIn K (.ref f12) = true)
    (a13 : PySem.W.findIn K (.ref C_Table) "order" = some (some (.ref f13)))
    (i13 : PySem.W.isFn K (.ref f13) = true)
    (l13 : K.lookup f13 = some ⟨oc13, od13, .func (PySem.W.fnOf "order" "Table.order" (defArgs s_Table_order) (defBody s_Table_order) (defScope s_Table_order) .none kV13 dc13 pm13 an13 cd13 ct13), sl13⟩)
    (c13 : PySem.W.codeIn K cd13 "Table.order" = true)
    (k13 : PySem.W.keepIn K (.ref f13) = true)
    (a14 : PySem.W.findIn K (.ref C_Table) "halves" = some (some (.ref f14)))
    (i14 : PySem.W.isFn K (.ref f14) = true)
    (l14 : K.lookup f14 = some ⟨oc14, od14, .func (PySem.W.fnOf "halves" "Table.halves" (defArgs s_Table_halves) (defBody s_Table_halves) (defScope s_Table_halves) .none kV14 dc14 pm14 an14 cd14 ct14), sl14⟩)
    (c14 : PySem.W.codeIn K cd14 "Table.halves" = true)
    (k14 : PySem.W.keepIn K (.ref f14) = true)
    (a15 : PySem.W.nsIn K mainGlobals "is_direction" = some (some (.ref f15)))
    (l15 : K.lookup f15 = some ⟨oc15, od15, .func (PySem.W.fnOf "is_direction" "is_direction" (defArgs s_is_direction) (defBody s_is_direction) (defScope s_is_direction) .none kV15 dc15 pm15 an15 cd15 ct15), sl15⟩)
    (c15 : PySem.W.codeIn K cd15 "is_direction" = true)
    (k15 : PySem.W.keepIn K (.ref f15) = true)
    (a16 : PySem.W.nsIn K mainGlobals "require_table" = some (some (.ref f16)))
    (l16 : K.lookup f16 = some ⟨oc16, od16, .func (PySem.W.fnOf "require_table" "require_table" (defArgs s_require_table) (defBody s_require_table) (defScope s_require_table) .none kV16 dc16 pm16 an16 cd16 ct16), sl16⟩)
    (c16 : PySem.W.codeIn K cd16 "require_table" = true)
    (k16 : PySem.W.keepIn K (.ref f16) = true)
    (a17 : PySem.W.nsIn K mainGlobals "require_seat" = some (some (.ref f17)))
    (l17 : K.lookup f17 = some ⟨oc17, od17, .func (PySem.W.fnOf "require_seat" "require_seat" (defArgs s_require_seat) (defBody s_require_seat) (defScope s_require_seat) .none kV17 dc17 pm17 an17 cd17 ct17), sl17⟩)
    (c17 : PySem.W.codeIn K cd17 "require_seat" = true)
    (k17 : PySem.W.keepIn K (.ref f17) = true)
    (a18 : PySem.W.nsIn K mainGlobals "require_call" = some (some (.ref f18)))
    (l18 : K.lookup f18 = some ⟨oc18, od18, .func (PySem.W.fnOf "require_call" "require_call" (defArgs s_require_call) (defBody s_require_call) (defScope s_require_call) .none kV18 dc18 pm18 an18 cd18 ct18), sl18⟩)
    (c18 : PySem.W.codeIn K cd18 "require_call" = true)
    (k18 : PySem.W.keepIn K (.ref f18) = true)
    (a19 : PySem.W.nsIn K mainGlobals "require_targets" = some (some (.ref f19)))
    (l19 : K.lookup f19 = some ⟨oc19, od19, .func (PySem.W.fnOf "require_targets" "require_targets" (defArgs s_require_targets) (defBody s_require_targets) (defScope s_require_targets) .none kV19 dc19 pm19 an19 cd19 ct19), sl19⟩)
    (c19 : PySem.W.codeIn K cd19 "require_targets" = true)
    (k19 : PySem.W.keepIn K (.ref f19) = true)
    (a20 : PySem.W.nsIn K mainGlobals "entry_depth" = some (some (.ref f20)))
    (l20 : K.lookup f20 = some ⟨oc20, od20, .func (PySem.W.fnOf "entry_depth" "entry_depth" (defArgs s_entry_depth) (defBody s_entry_depth) (defScope s_entry_depth) .none kV20 dc20 pm20 an20 cd20 ct20), sl20⟩)
    (c20 : PySem.W.codeIn K cd20 "entry_depth" = true)
    (k20 : PySem.W.keepIn K (.ref f20) = true)
    (a21 : PySem.W.nsIn K mainGlobals "plan_depths" = some (some (.ref f21)))
    (l21 : K.lookup f21 = some ⟨oc21, od21, .func (PySem.W.fnOf "plan_depths" "plan_depths" (defArgs s_plan_depths) (defBody s_plan_depths) (defScope s_plan_depths) .none kV21 dc21 pm21 an21 cd21 ct21), sl21⟩)
    (c21 : PySem.W.codeIn K cd21 "plan_depths" = true)
    (k21 : PySem.W.keepIn K (.ref f21) = true)
    (a22 : PySem.W.nsIn K mainGlobals "check_plan" = some (some (.ref f22)))
    (l22 : K.lookup f22 = some ⟨oc22, od22, .func (PySem.W.fnOf "check_plan" "check_plan" (defArgs s_check_plan) (defBody s_check_plan) (defScope s_check_plan) .none kV22 dc22 pm22 an22 cd22 ct22), sl22⟩)
    (c22 : PySem.W.codeIn K cd22 "check_plan" = true)
    (k22 : PySem.W.keepIn K (.ref f22) = true)
    (a23 : PySem.W.nsIn K mainGlobals "_law_mix" = some (some (.ref f23)))
    (l23 : K.lookup f23 = some ⟨oc23, od23, .func (PySem.W.fnOf "_law_mix" "_law_mix" (defArgs s_law_mix) (defBody s_law_mix) (defScope s_law_mix) .none kV23 dc23 pm23 an23 cd23 ct23), sl23⟩)
    (c23 : PySem.W.codeIn K cd23 "_law_mix" = true)
    (k23 : PySem.W.keepIn K (.ref f23) = true)
    (a24 : PySem.W.nsIn K mainGlobals "_law_source" = some (some (.ref f24)))
    (l24 : K.lookup f24 = some ⟨oc24, od24, .func (PySem.W.fnOf "_law_source" "_law_source" (defArgs s_law_source) (defBody s_law_source) (defScope s_law_source) .none kV24 dc24 pm24 an24 cd24 ct24), sl24⟩)
    (c24 : PySem.W.codeIn K cd24 "_law_source" = true)
    (k24 : PySem.W.keepIn K (.ref f24) = true)
    (a25 : PySem.W.nsIn K mainGlobals "_law_draw" = some (some (.ref f25)))
    (l25 : K.lookup f25 = some ⟨oc25, od25, .func (PySem.W.fnOf "_law_draw" "_law_draw" (defArgs s_law_draw) (defBody s_law_draw) (defScope s_law_draw) .none kV25 dc25 pm25 an25 cd25 ct25), sl25⟩)
    (c25 : PySem.W.codeIn K cd25 "_law_draw" = true)
    (k25 : PySem.W.keepIn K (.ref f25) = true)
    (a26 : PySem.W.nsIn K mainGlobals "_law_rings" = some (some (.ref f26)))
    (l26 : K.lookup f26 = some ⟨oc26, od26, .func (PySem.W.fnOf "_law_rings" "_law_rings" (defArgs s_law_rings) (defBody s_law_rings) (defScope s_law_rings) .none kV26 dc26 pm26 an26 cd26 ct26), sl26⟩)
    (c26 : PySem.W.codeIn K cd26 "_law_rings" = true)
    (k26 : PySem.W.keepIn K (.ref f26) = true)
    (a27 : PySem.W.nsIn K mainGlobals "_law_both" = some (some (.ref f27)))
    (l27 : K.lookup f27 = some ⟨oc27, od27, .func (PySem.W.fnOf "_law_both" "_law_both" (defArgs s_law_both) (defBody s_law_both) (defScope s_law_both) .none kV27 dc27 pm27 an27 cd27 ct27), sl27⟩)
    (c27 : PySem.W.codeIn K cd27 "_law_both" = true)
    (k27 : PySem.W.keepIn K (.ref f27) = true)
    (a28 : PySem.W.nsIn K mainGlobals "_law_is_spot" = some (some (.ref f28)))
    (l28 : K.lookup f28 = some ⟨oc28, od28, .func (PySem.W.fnOf "_law_is_spot" "_law_is_spot" (defArgs s_law_is_spot) (defBody s_law_is_spot) (defScope s_law_is_spot) .none kV28 dc28 pm28 an28 cd28 ct28), sl28⟩)
    (c28 : PySem.W.codeIn K cd28 "_law_is_spot" = true)
    (k28 : PySem.W.keepIn K (.ref f28) = true)
    (a29 : PySem.W.nsIn K mainGlobals "_law_is_call" = some (some (.ref f29)))
    (l29 : K.lookup f29 = some ⟨oc29, od29, .func (PySem.W.fnOf "_law_is_call" "_law_is_call" (defArgs s_law_is_call) (defBody s_law_is_call) (defScope s_law_is_call) .none kV29 dc29 pm29 an29 cd29 ct29), sl29⟩)
    (c29 : PySem.W.codeIn K cd29 "_law_is_call" = true)
    (k29 : PySem.W.keepIn K (.ref f29) = true)
    (a30 : PySem.W.nsIn K mainGlobals "_law_middles" = some (some (.ref f30)))
    (l30 : K.lookup f30 = some ⟨oc30, od30, .func (PySem.W.fnOf "_law_middles" "_law_middles" (defArgs s_law_middles) (defBody s_law_middles) (defScope s_law_middles) .none kV30 dc30 pm30 an30 cd30 ct30), sl30⟩)
    (c30 : PySem.W.codeIn K cd30 "_law_middles" = true)
    (k30 : PySem.W.keepIn K (.ref f30) = true)
    (a31 : PySem.W.nsIn K mainGlobals "_law_plan" = some (some (.ref f31)))
    (l31 : K.lookup f31 = some ⟨oc31, od31, .func (PySem.W.fnOf "_law_plan" "_law_plan" (defArgs s_law_plan) (defBody s_law_plan) (defScope s_law_plan) .none kV31 dc31 pm31 an31 cd31 ct31), sl31⟩)
    (c31 : PySem.W.codeIn K cd31 "_law_plan" = true)
    (k31 : PySem.W.keepIn K (.ref f31) = true)
    (a32 : PySem.W.nsIn K mainGlobals "_law_due" = some (some (.ref f32)))
    (l32 : K.lookup f32 = some ⟨oc32, od32, .func (PySem.W.fnOf "_law_due" "_law_due" (defArgs s_law_due) (defBody s_law_due) (defScope s_law_due) .none kV32 dc32 pm32 an32 cd32 ct32), sl32⟩)
    (c32 : PySem.W.codeIn K cd32 "_law_due" = true)
    (k32 : PySem.W.keepIn K (.ref f32) = true)
    (a33 : PySem.W.nsIn K mainGlobals "_law_said" = some (some (.ref f33)))
    (l33 : K.lookup f33 = some ⟨oc33, od33, .func (PySem.W.fnOf "_law_said" "_law_said" (defArgs s_law_said) (defBody s_law_said) (defScope s_law_said) .none kV33 dc33 pm33 an33 cd33 ct33), sl33⟩)
    (c33 : PySem.W.codeIn K cd33 "_law_said" = true)
    (k33 : PySem.W.keepIn K (.ref f33) = true)
    (a34 : PySem.W.nsIn K mainGlobals "_law_changed" = some (some (.ref f34)))
    (l34 : K.lookup f34 = some ⟨oc34, od34, .func (PySem.W.fnOf "_law_changed" "_law_changed" (defArgs s_law_changed) (defBody s_law_changed) (defScope s_law_changed) .none kV34 dc34 pm34 an34 cd34 ct34), sl34⟩)
    (c34 : PySem.W.codeIn K cd34 "_law_changed" = true)
    (k34 : PySem.W.keepIn K (.ref f34) = true)
    (a35 : PySem.W.nsIn K mainGlobals "_law_goals" = some (some (.ref f35)))
    (l35 : K.lookup f35 = some ⟨oc35, od35, .func (PySem.W.fnOf "_law_goals" "_law_goals" (defArgs s_law_goals) (defBody s_law_goals) (defScope s_law_goals) .none kV35 dc35 pm35 an35 cd35 ct35), sl35⟩)
    (c35 : PySem.W.codeIn K cd35 "_law_goals" = true)
    (k35 : PySem.W.keepIn K (.ref f35) = true)
    (a36 : PySem.W.nsIn K mainGlobals "_law_is_right" = some (some (.ref f36)))
    (l36 : K.lookup f36 = some ⟨oc36, od36, .func (PySem.W.fnOf "_law_is_right" "_law_is_right" (defArgs s_law_is_right) (defBody s_law_is_right) (defScope s_law_is_right) .none kV36 dc36 pm36 an36 cd36 ct36), sl36⟩)
    (c36 : PySem.W.codeIn K cd36 "_law_is_right" = true)
    (k36 : PySem.W.keepIn K (.ref f36) = true)
    (a37 : PySem.W.nsIn K mainGlobals "law" = some (some (.ref f37)))
    (l37 : K.lookup f37 = some ⟨oc37, od37, .func (PySem.W.fnOf "law" "law" (defArgs s_law) (defBody s_law) (defScope s_law) .none kV37 dc37 pm37 an37 cd37 ct37), sl37⟩)
    (c37 : PySem.W.codeIn K cd37 "law" = true)
    (k37 : PySem.W.keepIn K (.ref f37) = true)
    (xl_InvalidWitness : K.lookup C_InvalidWitness = some (excClassObj nm_InvalidWitness q_InvalidWitness C_InvalidWitness N_InvalidWitness bs_InvalidWitness [.ref B_InvalidWitness, .type "ValueError", .type "Exception", .type "BaseException", .type "object"] true sn_InvalidWitness sub_InvalidWitness ab_InvalidWitness col_InvalidWitness dd_InvalidWitness m0_InvalidWitness m1_InvalidWitness m2_InvalidWitness m3_InvalidWitness m5_InvalidWitness "ValueError.__new__"))
    (sa_InvalidWitness : PySem.W.findIn K (.ref C_InvalidWitness) "__setattr__" = some (some (.builtin "object.__setattr__")))
    (ga_InvalidWitness : PySem.W.findIn K (.ref C_InvalidWitness) "__getattribute__" = some (some (.builtin "BaseException.__getattribute__")))
    (gg_InvalidWitness : PySem.W.findIn K (.ref C_InvalidWitness) "__getattr__" = some none)
    (ti_InvalidWitness : PySem.W.typeIn K (.ref f1) = some (.type "function"))
    (kc_InvalidWitness : PySem.W.keepIn K (.ref C_InvalidWitness) = true)
    (ex_InvalidWitness : PySem.W.subIn K (.ref C_InvalidWitness) (.type "BaseException") = some true)
    (ty_InvalidWitness : PySem.W.typeIn K (.ref C_InvalidWitness) = some (.type "type"))
    (hd_InvalidWitness : PySem.W.hasDictIn K C_InvalidWitness = true)
    (il_InvalidWitness : PySem.W.isClsIn K C_InvalidWitness = true)
    (ss_InvalidWitness : PySem.W.subIn K (.ref C_InvalidWitness) (.ref C_InvalidWitness) = some true)
    (n_InvalidWitness_index : PySem.W.findIn K (.ref C_InvalidWitness) "index" = some none)
    (pg_Table : PySem.W.plainGet K C_Table Str.empty = true)
    (hd_Table : PySem.W.hasDictIn K C_Table = true)
    (po_Table : PySem.W.plainOver K C_Table = true)
    (sa_Table : PySem.W.findIn K (.ref C_Table) "__setattr__" = some (some (.builtin "object.__setattr__")))
    (mk_Table : PySem.W.makesIn K C_Table = true)
    (kc_Table : PySem.W.keepIn K (.ref C_Table) = true)
    (n_Table_rings : PySem.W.findIn K (.ref C_Table) "rings" = some none)
    (ic_Table : PySem.W.findIn K (.ref C_Table) "__class__" = some (some (.builtin "object.__class__")))
    (im_Table : PySem.W.mroIn K C_Table (.type "object") = some true)
    (ig_ : PySem.W.specialIn K (.builtin "object.__class__") "__get__" = some (some (.builtin "getset_descriptor.__get__")))
    (it_ : PySem.W.takesIn K (.builtin "object.__class__") = some true)
    (ic_InvalidWitness : PySem.W.findIn K (.ref C_InvalidWitness) "__class__" = some (some (.builtin "object.__class__")))
    (im_InvalidWitness : PySem.W.mroIn K C_InvalidWitness (.type "object") = some true)
    (ki_InvalidWitness : PySem.W.kitAny K (.ref C_InvalidWitness) [.ref C_InvalidSeat, .ref C_InvalidTargets] = some false)
    (v_MAX_RINGS : PySem.W.nsIn K mainGlobals "MAX_RINGS" = some (some (.int 4 t_MAX_RINGS)))
    (z_abs : PySem.W.nsIn K mainGlobals "abs" = some none)
    (z_all : PySem.W.nsIn K mainGlobals "all" = some none)
    (z_bool : PySem.W.nsIn K mainGlobals "bool" = some none)
    (z_dict : PySem.W.nsIn K mainGlobals "dict" = some none)
    (z_enumerate : PySem.W.nsIn K mainGlobals "enumerate" = some none)
    (z_int : PySem.W.nsIn K mainGlobals "int" = some none)
    (z_isinstance : PySem.W.nsIn K mainGlobals "isinstance" = some none)
    (z_len : PySem.W.nsIn K mainGlobals "len" = some none)
    (z_list : PySem.W.nsIn K mainGlobals "list" = some none)
    (z_max : PySem.W.nsIn K mainGlobals "max" = some none)
    (z_min : PySem.W.nsIn K mainGlobals "min" = some none)
    (z_range : PySem.W.nsIn K mainGlobals "range" = some none)
    (z_repr : PySem.W.nsIn K mainGlobals "repr" = some none)
    (z_str : PySem.W.nsIn K mainGlobals "str" = some none)
    (z_tuple : PySem.W.nsIn K mainGlobals "tuple" = some none)
    (z_zip : PySem.W.nsIn K mainGlobals "zip" = some none)
    : ∃ T : TX K mg, T.f_law = f37 ∧ T.fd_law = PySem.W.fnOf "law" "law" (defArgs s_law) (defBody s_law) (defScope s_law) .none kV37 dc37 pm37 an37 cd37 ct37 := by
  have F0 := fun_mk (st := s_wall) l0 c0 k0
  have b0 := F0.binds (ps := ["k"]) fun _ _ _ _ _ _ us hl => match us, hl with | [_], _ => rfl
  have F1 := fun_mk (st := s_InvalidWitness_init) l1 c1 k1
  have b1 := F1.binds (ps := ["self", "index"]) fun _ _ _ _ _ _ us hl => match us, hl with | [_, _], _ => rfl
  have F2 := fun_mk (st := s_is_integer) l2 c2 k2
  have b2 := F2.binds (ps := ["value"]) fun _ _ _ _ _ _ us hl => match us, hl with | [_], _ => rfl
  have F3 := fun_mk (st := s_is_at_least) l3 c3 k3
  have b3 := F3.binds (ps := ["value", "low"]) fun _ _ _ _ _ _ us hl => match us, hl with | [_, _], _ => rfl
  have F4 := fun_mk (st := s_is_between) l4 c4 k4
  have b4 := F4.binds (ps := ["value", "low", "high"]) fun _ _ _ _ _ _ us hl => match us, hl with | [_, _, _], _ => rfl
  have F5 := fun_mk (st := s_Table_init) l5 c5 k5
  have b5 := F5.binds (ps := ["self", "rings"]) fun _ _ _ _ _ _ us hl => match us, hl with | [_, _], _ => rfl
  have F6 := fun_mk (st := s_Table_sizes) l6 c6 k6
  have b6 := F6.binds (ps := ["self"]) fun _ _ _ _ _ _ us hl => match us, hl with | [_], _ => rfl
  have F7 := fun_mk (st := s_Table_count) l7 c7 k7
  have b7 := F7.binds (ps := ["self"]) fun _ _ _ _ _ _ us hl => match us, hl with | [_], _ => rfl
  have F8 := fun_mk (st := s_Table_is_seat) l8 c8 k8
  have b8 := F8.binds (ps := ["self", "value"]) fun _ _ _ _ _ _ us hl => match us, hl with | [_, _], _ => rfl
  have F9 := fun_mk (st := s_Table_is_call) l9 c9 k9
  have b9 := F9.binds (ps := ["self", "value"]) fun _ _ _ _ _ _ us hl => match us, hl with | [_, _], _ => rfl
  have F10 := fun_mk (st := s_Table_shifted) l10 c10 k10
  have b10 := F10.binds (ps := ["self", "seat", "call", "factor"]) fun _ _ _ _ _ _ us hl => match us, hl with | [_, _, _, _], _ => rfl
  have F11 := fun_mk (st := s_Table_moves) l11 c11 k11
  have b11 := F11.binds (ps := ["self", "seat", "call"]) fun _ _ _ _ _ _ us hl => match us, hl with | [_, _, _], _ => rfl
  have F12 := fun_mk (st := s_Table_step) l12 c12 k12
  have b12 := F12.binds (ps := ["self", "seat", "call", "direction"]) fun _ _ _ _ _ _ us hl => match us, hl with | [_, _, _, _], _ => rfl
  have F13 := fun_mk (st := s_Table_order) l13 c13 k13
  have b13 := F13.binds (ps := ["self", "seat"]) fun _ _ _ _ _ _ us hl => match us, hl with | [_, _], _ => rfl
  have F14 := fun_mk (st := s_Table_halves) l14 c14 k14
  have b14 := F14.binds (ps := ["self", "seat"]) fun _ _ _ _ _ _ us hl => match us, hl with | [_, _], _ => rfl
  have F15 := fun_mk (st := s_is_direction) l15 c15 k15
  have b15 := F15.binds (ps := ["value"]) fun _ _ _ _ _ _ us hl => match us, hl with | [_], _ => rfl
  have F16 := fun_mk (st := s_require_table) l16 c16 k16
  have b16 := F16.binds (ps := ["table"]) fun _ _ _ _ _ _ us hl => match us, hl with | [_], _ => rfl
  have F17 := fun_mk (st := s_require_seat) l17 c17 k17
  have b17 := F17.binds (ps := ["table", "seat"]) fun _ _ _ _ _ _ us hl => match us, hl with | [_, _], _ => rfl
  have F18 := fun_mk (st := s_require_call) l18 c18 k18
  have b18 := F18.binds (ps := ["table", "call"]) fun _ _ _ _ _ _ us hl => match us, hl with | [_, _], _ => rfl
  have F19 := fun_mk (st := s_require_targets) l19 c19 k19
  have b19 := F19.binds (ps := ["table", "targets"]) fun _ _ _ _ _ _ us hl => match us, hl with | [_, _], _ => rfl
  have F20 := fun_mk (st := s_entry_depth) l20 c20 k20
  have b20 := F20.binds (ps := ["table", "depths", "entry"]) fun _ _ _ _ _ _ us hl => match us, hl with | [_, _, _], _ => rfl
  have F21 := fun_mk (st := s_plan_depths) l21 c21 k21
  have b21 := F21.binds (ps := ["table", "targets", "plan"]) fun _ _ _ _ _ _ us hl => match us, hl with | [_, _, _], _ => rfl
  have F22 := fun_mk (st := s_check_plan) l22 c22 k22
  have b22 := F22.binds (ps := ["table", "targets", "plan"]) fun _ _ _ _ _ _ us hl => match us, hl with | [_, _, _], _ => rfl
  have F23 := fun_mk (st := s_law_mix) l23 c23 k23
  have b23 := F23.binds (ps := ["_law_cell", "_law_turn"]) fun _ _ _ _ _ _ us hl => match us, hl with | [_, _], _ => rfl
  have F24 := fun_mk (st := s_law_source) l24 c24 k24
  have b24 := F24.binds (ps := ["_law_cell"]) fun _ _ _ _ _ _ us hl => match us, hl with | [_], _ => rfl
  have F25 := fun_mk (st := s_law_draw) l25 c25 k25
  have b25 := F25.binds (ps := ["_law_source_here", "_law_limit"]) fun _ _ _ _ _ _ us hl => match us, hl with | [_, _], _ => rfl
  have F26 := fun_mk (st := s_law_rings) l26 c26 k26
  have b26 := F26.binds (ps := ["_law_source_here", "_law_high"]) fun _ _ _ _ _ _ us hl => match us, hl with | [_, _], _ => rfl
  have F27 := fun_mk (st := s_law_both) l27 c27 k27
  have b27 := F27.binds (ps := ["_law_rings_here", "_law_spot", "_law_call"]) fun _ _ _ _ _ _ us hl => match us, hl with | [_, _, _], _ => rfl
  have F28 := fun_mk (st := s_law_is_spot) l28 c28 k28
  have b28 := F28.binds (ps := ["_law_rings_here", "_law_thing"]) fun _ _ _ _ _ _ us hl => match us, hl with | [_, _], _ => rfl
  have F29 := fun_mk (st := s_law_is_call) l29 c29 k29
  have b29 := F29.binds (ps := ["_law_rings_here", "_law_thing"]) fun _ _ _ _ _ _ us hl => match us, hl with | [_, _], _ => rfl
  have F30 := fun_mk (st := s_law_middles) l30 c30 k30
  have b30 := F30.binds (ps := ["_law_rings_here", "_law_first", "_law_second"]) fun _ _ _ _ _ _ us hl => match us, hl with | [_, _, _], _ => rfl
  have F31 := fun_mk (st := s_law_plan) l31 c31 k31
  have b31 := F31.binds (ps := ["_law_source_here", "_law_rings_here", "_law_goals_here"]) fun _ _ _ _ _ _ us hl => match us, hl with | [_, _, _], _ => rfl
  have F32 := fun_mk (st := s_law_due) l32 c32 k32
  have b32 := F32.binds (ps := ["_law_rings_here", "_law_goals_here", "_law_entries"]) fun _ _ _ _ _ _ us hl => match us, hl with | [_, _, _], _ => rfl
  have F33 := fun_mk (st := s_law_said) l33 c33 k33
  have b33 := F33.binds (ps := ["_law_ask"]) fun _ _ _ _ _ _ us hl => match us, hl with | [_], _ => rfl
  have F34 := fun_mk (st := s_law_changed) l34 c34 k34
  have b34 := F34.binds (ps := ["_law_source_here", "_law_rings_here", "_law_goals_here", "_law_entries"]) fun _ _ _ _ _ _ us hl => match us, hl with | [_, _, _, _], _ => rfl
  have F35 := fun_mk (st := s_law_goals) l35 c35 k35
  have b35 := F35.binds (ps := ["_law_source_here", "_law_rings_here"]) fun _ _ _ _ _ _ us hl => match us, hl with | [_, _], _ => rfl
  have F36 := fun_mk (st := s_law_is_right) l36 c36 k36
  have b36 := F36.binds (ps := ["_law_source_here"]) fun _ _ _ _ _ _ us hl => match us, hl with | [_], _ => rfl
  have F37 := fun_mk (st := s_law) l37 c37 k37
  have b37 := F37.binds (ps := ["_law_script"]) fun _ _ _ _ _ _ us hl => match us, hl with | [_], _ => rfl
  exact ⟨{
    f_wall := f0, fd_wall := _, F_wall := F0, b_wall := b0, m_wall := PySem.W.mg_of X G a0,
    f_InvalidWitness_init := f1, fd_InvalidWitness_init := _, F_InvalidWitness_init := F1, b_InvalidWitness_init := b1,
    f_is_integer := f2, fd_is_integer := _, F_is_integer := F2, b_is_integer := b2, m_is_integer := PySem.W.mg_of X G a2,
    f_is_at_least := f3, fd_is_at_least := _, F_is_at_least := F3, b_is_at_least := b3, m_is_at_least := PySem.W.mg_of X G a3,
    f_is_between := f4, fd_is_between := _, F_is_between := F4, b_is_between := b4, m_is_between := PySem.W.mg_of X G a4,
    f_Table_init := f5, fd_Table_init := _, F_Table_init := F5, b_Table_init := b5,
    f_Table_sizes := f6, fd_Table_sizes := _, F_Table_sizes := F6, b_Table_sizes := b6,
    f_Table_count := f7, fd_Table_count := _, F_Table_count := F7, b_Table_count := b7,
    f_Table_is_seat := f8, fd_Table_is_seat := _, F_Table_is_seat := F8, b_Table_is_seat := b8,
    f_Table_is_call := f9, fd_Table_is_call := _, F_Table_is_call := F9, b_Table_is_call := b9,
    f_Table_shifted := f10, fd_Table_shifted := _, F_Table_shifted := F10, b_Table_shifted := b10,
    f_Table_moves := f11, fd_Table_moves := _, F_Table_moves := F11, b_Table_moves := b11,
    f_Table_step := f12, fd_Table_step := _, F_Table_step := F12, b_Table_step := b12,
    f_Table_order := f13, fd_Table_order := _, F_Table_order := F13, b_Table_order := b13,
    f_Table_halves := f14, fd_Table_halves := _, F_Table_halves := F14, b_Table_halves := b14,
    f_is_direction := f15, fd_is_direction := _, F_is_direction := F15, b_is_direction := b15, m_is_direction := PySem.W.mg_of X G a15,
    f_require_table := f16, fd_require_table := _, F_require_table := F16, b_require_table := b16, m_require_table := PySem.W.mg_of X G a16,
    f_require_seat := f17, fd_require_seat := _, F_require_seat := F17, b_require_seat := b17, m_require_seat := PySem.W.mg_of X G a17,
    f_require_call := f18, fd_require_call := _, F_require_call := F18, b_require_call := b18, m_require_call := PySem.W.mg_of X G a18,
    f_require_targets := f19, fd_require_targets := _, F_require_targets := F19, b_require_targets := b19, m_require_targets := PySem.W.mg_of X G a19,
    f_entry_depth := f20, fd_entry_depth := _, F_entry_depth := F20, b_entry_depth := b20, m_entry_depth := PySem.W.mg_of X G a20,
    f_plan_depths := f21, fd_plan_depths := _, F_plan_depths := F21, b_plan_depths := b21, m_plan_depths := PySem.W.mg_of X G a21,
    f_check_plan := f22, fd_check_plan := _, F_check_plan := F22, b_check_plan := b22, m_check_plan := PySem.W.mg_of X G a22,
    f_law_mix := f23, fd_law_mix := _, F_law_mix := F23, b_law_mix := b23, m_law_mix := PySem.W.mg_of X G a23,
    f_law_source := f24, fd_law_source := _, F_law_source := F24, b_law_source := b24, m_law_source := PySem.W.mg_of X G a24,
    f_law_draw := f25, fd_law_draw := _, F_law_draw := F25, b_law_draw := b25, m_law_draw := PySem.W.mg_of X G a25,
    f_law_rings := f26, fd_law_rings := _, F_law_rings := F26, b_law_rings := b26, m_law_rings := PySem.W.mg_of X G a26,
    f_law_both := f27, fd_law_both := _, F_law_both := F27, b_law_both := b27, m_law_both := PySem.W.mg_of X G a27,
    f_law_is_spot := f28, fd_law_is_spot := _, F_law_is_spot := F28, b_law_is_spot := b28, m_law_is_spot := PySem.W.mg_of X G a28,
    f_law_is_call := f29, fd_law_is_call := _, F_law_is_call := F29, b_law_is_call := b29, m_law_is_call := PySem.W.mg_of X G a29,
    f_law_middles := f30, fd_law_middles := _, F_law_middles := F30, b_law_middles := b30, m_law_middles := PySem.W.mg_of X G a30,
    f_law_plan := f31, fd_law_plan := _, F_law_plan := F31, b_law_plan := b31, m_law_plan := PySem.W.mg_of X G a31,
    f_law_due := f32, fd_law_due := _, F_law_due := F32, b_law_due := b32, m_law_due := PySem.W.mg_of X G a32,
    f_law_said := f33, fd_law_said := _, F_law_said := F33, b_law_said := b33, m_law_said := PySem.W.mg_of X G a33,
    f_law_changed := f34, fd_law_changed := _, F_law_changed := F34, b_law_changed := b34, m_law_changed := PySem.W.mg_of X G a34,
    f_law_goals := f35, fd_law_goals := _, F_law_goals := F35, b_law_goals := b35, m_law_goals := PySem.W.mg_of X G a35,
    f_law_is_right := f36, fd_law_is_right := _, F_law_is_right := F36, b_law_is_right := b36, m_law_is_right := PySem.W.mg_of X G a36,
    f_law := f37, fd_law := _, F_law := F37, b_law := b37, m_law := PySem.W.mg_of X G a37,
    C_InvalidSeat := C_InvalidSeat, m_InvalidSeat := PySem.W.mg_of X G aC_InvalidSeat,
    C_InvalidTargets := C_InvalidTargets, m_InvalidTargets := PySem.W.mg_of X G aC_InvalidTargets,
    C_InvalidWitness := C_InvalidWitness, m_InvalidWitness := PySem.W.mg_of X G aC_InvalidWitness, ox_InvalidWitness := ⟨⟨nm_InvalidWitness, q_InvalidWitness, N_InvalidWitness, bs_InvalidWitness, _, sn_InvalidWitness, sub_InvalidWitness, ab_InvalidWitness, col_InvalidWitness, dd_InvalidWitness, m0_InvalidWitness, m1_InvalidWitness, m2_InvalidWitness, m3_InvalidWitness, m5_InvalidWitness, xl_InvalidWitness, by rfl⟩, sa_InvalidWitness, ex_InvalidWitness, ty_InvalidWitness, kc_InvalidWitness⟩, xf_InvalidWitness := ⟨ga_InvalidWitness, gg_InvalidWitness, ex_InvalidWitness, hd_InvalidWitness⟩, i_InvalidWitness := a1, ti_InvalidWitness := ti_InvalidWitness, em_InvalidWitness := exm_self ex_InvalidWitness il_InvalidWitness ty_InvalidWitness ss_InvalidWitness,
    n_InvalidWitness_index := n_InvalidWitness_index,
    C_Table := C_Table, cl_Table := ⟨pg_Table, hd_Table, po_Table, sa_Table⟩, m_Table := PySem.W.mg_of X G aC_Table,
    M_Table := ⟨mk_Table, a5, i5, kc_Table⟩,
    me_Table_sizes := ⟨a6, i6, k6⟩,
    me_Table_count := ⟨a7, i7, k7⟩,
    me_Table_is_seat := ⟨a8, i8, k8⟩,
    me_Table_is_call := ⟨a9, i9, k9⟩,
    me_Table_shifted := ⟨a10, i10, k10⟩,
    me_Table_moves := ⟨a11, i11, k11⟩,
    me_Table_step := ⟨a12, i12, k12⟩,
    me_Table_order := ⟨a13, i13, k13⟩,
    me_Table_halves := ⟨a14, i14, k14⟩,
    n_Table_rings := n_Table_rings,
    ic_Table := ic_Table,
    im_Table := im_Table,
    ig_ := ig_,
    it_ := it_,
    xi_InvalidWitness := ⟨il_InvalidWitness, ga_InvalidWitness, gg_InvalidWitness, ex_InvalidWitness, ic_InvalidWitness, ig_, it_, im_InvalidWitness⟩, ki_InvalidWitness := ki_InvalidWitness,
    t_MAX_RINGS := _, c_MAX_RINGS := PySem.W.mg_of X G v_MAX_RINGS,
    z_abs := PySem.W.mg_none_of X G z_abs,
    z_all := PySem.W.mg_none_of X G z_all,
    z_bool := PySem.W.mg_none_of X G z_bool,
    z_dict := PySem.W.mg_none_of X G z_dict,
    z_enumerate := PySem.W.mg_none_of X G z_enumerate,
    z_int := PySem.W.mg_none_of X G z_int,
    z_isinstance := PySem.W.mg_none_of X G z_isinstance,
    z_len := PySem.W.mg_none_of X G z_len,
    z_list := PySem.W.mg_none_of X G z_list,
    z_max := PySem.W.mg_none_of X G z_max,
    z_min := PySem.W.mg_none_of X G z_min,
    z_range := PySem.W.mg_none_of X G z_range,
    z_repr := PySem.W.mg_none_of X G z_repr,
    z_str := PySem.W.mg_none_of X G z_str,
    z_tuple := PySem.W.mg_none_of X G z_tuple,
    z_zip := PySem.W.mg_none_of X G z_zip
  }, rfl, rfl⟩
theorem use_mk {K : PySem.W.Frag} {h : Heap} {mg : Str → Option Value} (X : K.In h) (G : h.Ns mainGlobals mg)
    {f0 f1 f2 f3 f4 f5 f6 f7 f8 f9 f10 f11 f12 f13 f14 f15 f16 f17 f18 f19 f20 f21 f22 f23 f24 f25 f26 f27 f28 f29 f30 f31 f32 f33 f34 f35 f36 f37 C_InvalidWitness C_Table C_InvalidSeat C_InvalidTargets : Addr}
    {od0 an0 od1 an1 od2 an2 od3 an3 od4 an4 od5 an5 od6 an6 od7 an7 od8 an8 od9 an9 od10 an10 od11 an11 od12 an12 od13 an13 od14 an14 od15 an15 od16 an16 od17 an17 od18 an18 od19 an19 od20 an20 od21 an21 od22 an22 od23 an23 od24 an24 od25 an25 od26 an26 od27 an27 od28 an28 od29 an29 od30 an30 od31 an31 od32 an32 od33 an33 od34 an34 od35 an35 od36 an36 od37 an37 : Option Addr} {sl0 sl1 sl2 sl3 sl4 sl5 sl6 sl7 sl8 sl9 sl10 sl11 sl12 sl13 sl14 sl15 sl16 sl17 sl18 sl19 sl20 sl21 sl22 sl23 sl24 sl25 sl26 sl27 sl28 sl29 sl30 sl31 sl32 sl33 sl34 sl35 sl36 sl37 : Array (Option Value)} {oc0 kV0 dc0 pm0 cd0 ct0 oc1 kV1 dc1 pm1 cd1 ct1 oc2 kV2 dc2 pm2 cd2 ct2 oc3 kV3 dc3 pm3 cd3 ct3 oc4 kV4 dc4 pm4 cd4 ct4 oc5 kV5 dc5 pm5 cd5 ct5 oc6 kV6 dc6 pm6 cd6 ct6 oc7 kV7 dc7 pm7 cd7 ct7 oc8 kV8 dc8 pm8 cd8 ct8 oc9 kV9 dc9 pm9 cd9 ct9 oc10 kV10 dc10 pm10 cd10 ct10 oc11 kV11 dc11 pm11 cd11 ct11 oc12 kV12 dc12 pm12 cd12 ct12 oc13 kV13 dc13 pm13 cd13 ct13 oc14 kV14 dc14 pm14 cd14 ct14 oc15 kV15 dc15 pm15 cd15 ct15 oc16 kV16 dc16 pm16 cd16 ct16 oc17 kV17 dc17 pm17 cd17 ct17 oc18 kV18 dc18 pm18 cd18 ct18 oc19 kV19 dc19 pm19 cd19 ct19 oc20 kV20 dc20 pm20 cd20 ct20 oc21 kV21 dc21 pm21 cd21 ct21 oc22 kV22 dc22 pm22 cd22 ct22 oc23 kV23 dc23 pm23 cd23 ct23 oc24 kV24 dc24 pm24 cd24 ct24 oc25 kV25 dc25 pm25 cd25 ct25 oc26 kV26 dc26 pm26 cd26 ct26 oc27 kV27 dc27 pm27 cd27 ct27 oc28 kV28 dc28 pm28 cd28 ct28 oc29 kV29 dc29 pm29 cd29 ct29 oc30 kV30 dc30 pm30 cd30 ct30 oc31 kV31 dc31 pm31 cd31 ct31 oc32 kV32 dc32 pm32 cd32 ct32 oc33 kV33 dc33 pm33 cd33 ct33 oc34 kV34 dc34 pm34 cd34 ct34 oc35 kV35 dc35 pm35 cd35 ct35 oc36 kV36 dc36 pm36 cd36 ct36 oc37 kV37 dc37 pm37 cd37 ct37 : Value}
    {nm_InvalidWitness q_InvalidWitness : Str} {N_InvalidWitness B_InvalidWitness : Addr} {bs_InvalidWitness sub_InvalidWitness : List Value} {sn_InvalidWitness : List Str} {ab_InvalidWitness : Bool} {col_InvalidWitness : Option Bool} {dd_InvalidWitness : Option Addr} {m0_InvalidWitness m1_InvalidWitness m2_InvalidWitness m3_InvalidWitness m5_InvalidWitness : Option Value}
    {t_MAX_RINGS : Tok}
    (aC_InvalidSeat : PySem.W.nsIn K mainGlobals "InvalidSeat" = some (some (.ref C_InvalidSeat)))
    (ex_InvalidSeat : PySem.W.subIn K (.ref C_InvalidSeat) (.type "BaseException") = some true)
    (ty_InvalidSeat : PySem.W.typeIn K (.ref C_InvalidSeat) = some (.type "type"))
    (il_InvalidSeat : PySem.W.isClsIn K C_InvalidSeat = true)
    (aC_InvalidTargets : PySem.W.nsIn K mainGlobals "InvalidTargets" = some (some (.ref C_InvalidTargets)))
    (ex_InvalidTargets : PySem.W.subIn K (.ref C_InvalidTargets) (.type "BaseException") = some true)
    (ty_InvalidTargets : PySem.W.typeIn K (.ref C_InvalidTargets) = some (.type "type"))
    (il_InvalidTargets : PySem.W.isClsIn K C_InvalidTargets = true)
    (aC_InvalidWitness : PySem.W.nsIn K mainGlobals "InvalidWitness" = some (some (.ref C_InvalidWitness)))
    (aC_Table : PySem.W.nsIn K mainGlobals "Table" = some (some (.ref C_Table)))
    (a0 : PySem.W.nsIn K mainGlobals "_wall" = some (some (.ref f0)))
    (l0 : K.lookup f0 = some ⟨oc0, od0, .func (PySem.W.fnOf "_wall" "_wall" (defArgs s_wall) (defBody s_wall) (defScope s_wall) .none kV0 dc0 pm0 an0 cd0 ct0), sl0⟩)
    (c0 : PySem.W.codeIn K cd0 "_wall" = true)
    (k0 : PySem.W.keepIn K (.ref f0) = true)
    (a1 : PySem.W.findIn K (.ref C_InvalidWitness) "__init__" = some (some (.ref f1)))
    (i1 : PySem.W.isFn K (.ref f1) = true)
    (l1 : K.lookup f1 = some ⟨oc1, od1, .func (PySem.W.fnOf "__init__" "InvalidWitness.__init__" (defArgs s_InvalidWitness_init) (defBody s_InvalidWitness_init) (defScope s_InvalidWitness_init) .none kV1 dc1 pm1 an1 cd1 ct1), sl1⟩)
    (c1 : PySem.W.codeIn K cd1 "InvalidWitness.__init__" = true)
    (k1 : PySem.W.keepIn K (.ref f1) = true)
    (a2 : PySem.W.nsIn K mainGlobals "is_integer" = some (some (.ref f2)))
    (l2 : K.lookup f2 = some ⟨oc2, od2, .func (PySem.W.fnOf "is_integer" "is_integer" (defArgs s_is_integer) (defBody s_is_integer) (defScope s_is_integer) .none kV2 dc2 pm2 an2 cd2 ct2), sl2⟩)
    (c2 : PySem.W.codeIn K cd2 "is_integer" = true)
    (k2 : PySem.W.keepIn K (.ref f2) = true)
    (a3 : PySem.W.nsIn K mainGlobals "is_at_least" = some (some (.ref f3)))
    (l3 : K.lookup f3 = some ⟨oc3, od3, .func (PySem.W.fnOf "is_at_least" "is_at_least" (defArgs s_is_at_least) (defBody s_is_at_least) (defScope s_is_at_least) .none kV3 dc3 pm3 an3 cd3 ct3), sl3⟩)
    (c3 : PySem.W.codeIn K cd3 "is_at_least" = true)
    (k3 : PySem.W.keepIn K (.ref f3) = true)
    (a4 : PySem.W.nsIn K mainGlobals "is_between" = some (some (.ref f4)))
    (l4 : K.lookup f4 = some ⟨oc4, od4, .func (PySem.W.fnOf "is_between" "is_between" (defArgs s_is_between) (defBody s_is_between) (defScope s_is_between) .none kV4 dc4 pm4 an4 cd4 ct4), sl4⟩)
    (c4 : PySem.W.codeIn K cd4 "is_between" = true)
    (k4 : PySem.W.keepIn K (.ref f4) = true)
    (a5 : PySem.W.findIn K (.ref C_Table) "__init__" = some (some (.ref f5)))
    (i5 : PySem.W.isFn K (.ref f5) = true)
    (l5 : K.lookup f5 = some ⟨oc5, od5, .func (PySem.W.fnOf "__init__" "Table.__init__" (defArgs s_Table_init) (defBody s_Table_init) (defScope s_Table_init) .none kV5 dc5 pm5 an5 cd5 ct5), sl5⟩)
    (c5 : PySem.W.codeIn K cd5 "Table.__init__" = true)
    (k5 : PySem.W.keepIn K (.ref f5) = true)
    (a6 : PySem.W.findIn K (.ref C_Table) "sizes" = some (some (.ref f6)))
    (i6 : PySem.W.isFn K (.ref f6) = true)
    (l6 : K.lookup f6 = some ⟨oc6, od6, .func (PySem.W.fnOf "sizes" "Table.sizes" (defArgs s_Table_sizes) (defBody s_Table_sizes) (defScope s_Table_sizes) .none kV6 dc6 pm6 an6 cd6 ct6), sl6⟩)
    (c6 : PySem.W.codeIn K cd6 "Table.sizes" = true)
    (k6 : PySem.W.keepIn K (.ref f6) = true)
    (a7 : PySem.W.findIn K (.ref C_Table) "count" = some (some (.ref f7)))
    (i7 : PySem.W.isFn K (.ref f7) = true)
    (l7 : K.lookup f7 = some ⟨oc7, od7, .func (PySem.W.fnOf "count" "Table.count" (defArgs s_Table_count) (defBody s_Table_count) (defScope s_Table_count) .none kV7 dc7 pm7 an7 cd7 ct7), sl7⟩)
    (c7 : PySem.W.codeIn K cd7 "Table.count" = true)
    (k7 : PySem.W.keepIn K (.ref f7) = true)
    (a8 : PySem.W.findIn K (.ref C_Table) "is_seat" = some (some (.ref f8)))
    (i8 : PySem.W.isFn K (.ref f8) = true)
    (l8 : K.lookup f8 = some ⟨oc8, od8, .func (PySem.W.fnOf "is_seat" "Table.is_seat" (defArgs s_Table_is_seat) (defBody s_Table_is_seat) (defScope s_Table_is_seat) .none kV8 dc8 pm8 an8 cd8 ct8), sl8⟩)
    (c8 : PySem.W.codeIn K cd8 "Table.is_seat" = true)
    (k8 : PySem.W.keepIn K (.ref f8) = true)
    (a9 : PySem.W.findIn K (.ref C_Table) "is_call" = some (some (.ref f9)))
    (i9 : PySem.W.isFn K (.ref f9) = true)
    (l9 : K.lookup f9 = some ⟨oc9, od9, .func (PySem.W.fnOf "is_call" "Table.is_call" (defArgs s_Table_is_call) (defBody s_Table_is_call) (defScope s_Table_is_call) .none kV9 dc9 pm9 an9 cd9 ct9), sl9⟩)
    (c9 : PySem.W.codeIn K cd9 "Table.is_call" = true)
    (k9 : PySem.W.keepIn K (.ref f9) = true)
    (a10 : PySem.W.findIn K (.ref C_Table) "shifted" = some (some (.ref f10)))
    (i10 : PySem.W.isFn K (.ref f10) = true)
    (l10 : K.lookup f10 = some ⟨oc10, od10, .func (PySem.W.fnOf "shifted" "Table.shifted" (defArgs s_Table_shifted) (defBody s_Table_shifted) (defScope s_Table_shifted) .none kV10 dc10 pm10 an10 cd10 ct10), sl10⟩)
    (c10 : PySem.W.codeIn K cd10 "Table.shifted" = true)
    (k10 : PySem.W.keepIn K (.ref f10) = true)
    (a11 : PySem.W.findIn K (.ref C_Table) "moves" = some (some (.ref f11)))
    (i11 : PySem.W.isFn K (.ref f11) = true)
    (l11 : K.lookup f11 = some ⟨oc11, od11, .func (PySem.W.fnOf "moves" "Table.moves" (defArgs s_Table_moves) (defBody s_Table_moves) (defScope s_Table_moves) .none kV11 dc11 pm11 an11 cd11 ct11), sl11⟩)
    (c11 : PySem.W.codeIn K cd11 "Table.moves" = true)
    (k11 : PySem.W.keepIn K (.ref f11) = true)
    (a12 : PySem.W.findIn K (.ref C_Table) "step" = some (some (.ref f12)))
    (i12 : PySem.W.isFn K (.ref f12) = true)
    (l12 : K.lookup f12 = some ⟨oc12, od12, .func (PySem.W.fnOf "step" "Table.step" (defArgs s_Table_step) (defBody s_Table_step) (defScope s_Table_step) .none kV12 dc12 pm12 an12 cd12 ct12), sl12⟩)
    (c12 : PySem.W.codeIn K cd12 "Table.step" = true)
    (k12 : PySem.W.keepIn K (.ref f12) = true)
    (a13 : PySem.W.findIn K (.ref C_Table) "order" = some (some (.ref f13)))
    (i13 : PySem.W.isFn K (.ref f13) = true)
    (l13 : K.lookup f13 = some ⟨oc13, od13, .func (PySem.W.fnOf "order" "Table.order" (defArgs s_Table_order) (defBody s_Table_order) (defScope s_Table_order) .none kV13 dc13 pm13 an13 cd13 ct13), sl13⟩)
    (c13 : PySem.W.codeIn K cd13 "Table.order" = true)
    (k13 : PySem.W.keepIn K (.ref f13) = true)
    (a14 : PySem.W.findIn K (.ref C_Table) "halves" = some (some (.ref f14)))
    (i14 : PySem.W.isFn K (.ref f14) = true)
    (l14 : K.lookup f14 = some ⟨oc14, od14, .func (PySem.W.fnOf "halves" "Table.halves" (defArgs s_Table_halves) (defBody s_Table_halves) (defScope s_Table_halves) .none kV14 dc14 pm14 an14 cd14 ct14), sl14⟩)
    (c14 : PySem.W.codeIn K cd14 "Table.halves" = true)
    (k14 : PySem.W.keepIn K (.ref f14) = true)
    (a15 : PySem.W.nsIn K mainGlobals "is_direction" = some (some (.ref f15)))
    (l15 : K.lookup f15 = some ⟨oc15, od15, .func (PySem.W.fnOf "is_direction" "is_direction" (defArgs s_is_direction) (defBody s_is_direction) (defScope s_is_direction) .none kV15 dc15 pm15 an15 cd15 ct15), sl15⟩)
    (c15 : PySem.W.codeIn K cd15 "is_direction" = true)
    (k15 : PySem.W.keepIn K (.ref f15) = true)
    (a16 : PySem.W.nsIn K mainGlobals "require_table" = some (some (.ref f16)))
    (l16 : K.lookup f16 = some ⟨oc16, od16, .func (PySem.W.fnOf "require_table" "require_table" (defArgs s_require_table) (defBody s_require_table) (defScope s_require_table) .none kV16 dc16 pm16 an16 cd16 ct16), sl16⟩)
    (c16 : PySem.W.codeIn K cd16 "require_table" = true)
    (k16 : PySem.W.keepIn K (.ref f16) = true)
    (a17 : PySem.W.nsIn K mainGlobals "require_seat" = some (some (.ref f17)))
    (l17 : K.lookup f17 = some ⟨oc17, od17, .func (PySem.W.fnOf "require_seat" "require_seat" (defArgs s_require_seat) (defBody s_require_seat) (defScope s_require_seat) .none kV17 dc17 pm17 an17 cd17 ct17), sl17⟩)
    (c17 : PySem.W.codeIn K cd17 "require_seat" = true)
    (k17 : PySem.W.keepIn K (.ref f17) = true)
    (a18 : PySem.W.nsIn K mainGlobals "require_call" = some (some (.ref f18)))
    (l18 : K.lookup f18 = some ⟨oc18, od18, .func (PySem.W.fnOf "require_call" "require_call" (defArgs s_require_call) (defBody s_require_call) (defScope s_require_call) .none kV18 dc18 pm18 an18 cd18 ct18), sl18⟩)
    (c18 : PySem.W.codeIn K cd18 "require_call" = true)
    (k18 : PySem.W.keepIn K (.ref f18) = true)
    (a19 : PySem.W.nsIn K mainGlobals "require_targets" = some (some (.ref f19)))
    (l19 : K.lookup f19 = some ⟨oc19, od19, .func (PySem.W.fnOf "require_targets" "require_targets" (defArgs s_require_targets) (defBody s_require_targets) (defScope s_require_targets) .none kV19 dc19 pm19 an19 cd19 ct19), sl19⟩)
    (c19 : PySem.W.codeIn K cd19 "require_targets" = true)
    (k19 : PySem.W.keepIn K (.ref f19) = true)
    (a20 : PySem.W.nsIn K mainGlobals "entry_depth" = some (some (.ref f20)))
    (l20 : K.lookup f20 = some ⟨oc20, od20, .func (PySem.W.fnOf "entry_depth" "entry_depth" (defArgs s_entry_depth) (defBody s_entry_depth) (defScope s_entry_depth) .none kV20 dc20 pm20 an20 cd20 ct20), sl20⟩)
    (c20 : PySem.W.codeIn K cd20 "entry_depth" = true)
    (k20 : PySem.W.keepIn K (.ref f20) = true)
    (a21 : PySem.W.nsIn K mainGlobals "plan_depths" = some (some (.ref f21)))
    (l21 : K.lookup f21 = some ⟨oc21, od21, .func (PySem.W.fnOf "plan_depths" "plan_depths" (defArgs s_plan_depths) (defBody s_plan_depths) (defScope s_plan_depths) .none kV21 dc21 pm21 an21 cd21 ct21), sl21⟩)
    (c21 : PySem.W.codeIn K cd21 "plan_depths" = true)
    (k21 : PySem.W.keepIn K (.ref f21) = true)
    (a22 : PySem.W.nsIn K mainGlobals "check_plan" = some (some (.ref f22)))
    (l22 : K.lookup f22 = some ⟨oc22, od22, .func (PySem.W.fnOf "check_plan" "check_plan" (defArgs s_check_plan) (defBody s_check_plan) (defScope s_check_plan) .none kV22 dc22 pm22 an22 cd22 ct22), sl22⟩)
    (c22 : PySem.W.codeIn K cd22 "check_plan" = true)
    (k22 : PySem.W.keepIn K (.ref f22) = true)
    (a23 : PySem.W.nsIn K mainGlobals "_law_mix" = some (some (.ref f23)))
    (l23 : K.lookup f23 = some ⟨oc23, od23, .func (PySem.W.fnOf "_law_mix" "_law_mix" (defArgs s_law_mix) (defBody s_law_mix) (defScope s_law_mix) .none kV23 dc23 pm23 an23 cd23 ct23), sl23⟩)
    (c23 : PySem.W.codeIn K cd23 "_law_mix" = true)
    (k23 : PySem.W.keepIn K (.ref f23) = true)
    (a24 : PySem.W.nsIn K mainGlobals "_law_source" = some (some (.ref f24)))
    (l24 : K.lookup f24 = some ⟨oc24, od24, .func (PySem.W.fnOf "_law_source" "_law_source" (defArgs s_law_source) (defBody s_law_source) (defScope s_law_source) .none kV24 dc24 pm24 an24 cd24 ct24), sl24⟩)
    (c24 : PySem.W.codeIn K cd24 "_law_source" = true)
    (k24 : PySem.W.keepIn K (.ref f24) = true)
    (a25 : PySem.W.nsIn K mainGlobals "_law_draw" = some (some (.ref f25)))
    (l25 : K.lookup f25 = some ⟨oc25, od25, .func (PySem.W.fnOf "_law_draw" "_law_draw" (defArgs s_law_draw) (defBody s_law_draw) (defScope s_law_draw) .none kV25 dc25 pm25 an25 cd25 ct25), sl25⟩)
    (c25 : PySem.W.codeIn K cd25 "_law_draw" = true)
    (k25 : PySem.W.keepIn K (.ref f25) = true)
    (a26 : PySem.W.nsIn K mainGlobals "_law_rings" = some (some (.ref f26)))
    (l26 : K.lookup f26 = some ⟨oc26, od26, .func (PySem.W.fnOf "_law_rings" "_law_rings" (defArgs s_law_rings) (defBody s_law_rings) (defScope s_law_rings) .none kV26 dc26 pm26 an26 cd26 ct26), sl26⟩)
    (c26 : PySem.W.codeIn K cd26 "_law_rings" = true)
    (k26 : PySem.W.keepIn K (.ref f26) = true)
    (a27 : PySem.W.nsIn K mainGlobals "_law_both" = some (some (.ref f27)))
    (l27 : K.lookup f27 = some ⟨oc27, od27, .func (PySem.W.fnOf "_law_both" "_law_both" (defArgs s_law_both) (defBody s_law_both) (defScope s_law_both) .none kV27 dc27 pm27 an27 cd27 ct27), sl27⟩)
    (c27 : PySem.W.codeIn K cd27 "_law_both" = true)
    (k27 : PySem.W.keepIn K (.ref f27) = true)
    (a28 : PySem.W.nsIn K mainGlobals "_law_is_spot" = some (some (.ref f28)))
    (l28 : K.lookup f28 = some ⟨oc28, od28, .func (PySem.W.fnOf "_law_is_spot" "_law_is_spot" (defArgs s_law_is_spot) (defBody s_law_is_spot) (defScope s_law_is_spot) .none kV28 dc28 pm28 an28 cd28 ct28), sl28⟩)
    (c28 : PySem.W.codeIn K cd28 "_law_is_spot" = true)
    (k28 : PySem.W.keepIn K (.ref f28) = true)
    (a29 : PySem.W.nsIn K mainGlobals "_law_is_call" = some (some (.ref f29)))
    (l29 : K.lookup f29 = some ⟨oc29, od29, .func (PySem.W.fnOf "_law_is_call" "_law_is_call" (defArgs s_law_is_call) (defBody s_law_is_call) (defScope s_law_is_call) .none kV29 dc29 pm29 an29 cd29 ct29), sl29⟩)
    (c29 : PySem.W.codeIn K cd29 "_law_is_call" = true)
    (k29 : PySem.W.keepIn K (.ref f29) = true)
    (a30 : PySem.W.nsIn K mainGlobals "_law_middles" = some (some (.ref f30)))
    (l30 : K.lookup f30 = some ⟨oc30, od30, .func (PySem.W.fnOf "_law_middles" "_law_middles" (defArgs s_law_middles) (defBody s_law_middles) (defScope s_law_middles) .none kV30 dc30 pm30 an30 cd30 ct30), sl30⟩)
    (c30 : PySem.W.codeIn K cd30 "_law_middles" = true)
    (k30 : PySem.W.keepIn K (.ref f30) = true)
    (a31 : PySem.W.nsIn K mainGlobals "_law_plan" = some (some (.ref f31)))
    (l31 : K.lookup f31 = some ⟨oc31, od31, .func (PySem.W.fnOf "_law_plan" "_law_plan" (defArgs s_law_plan) (defBody s_law_plan) (defScope s_law_plan) .none kV31 dc31 pm31 an31 cd31 ct31), sl31⟩)
    (c31 : PySem.W.codeIn K cd31 "_law_plan" = true)
    (k31 : PySem.W.keepIn K (.ref f31) = true)
    (a32 : PySem.W.nsIn K mainGlobals "_law_due" = some (some (.ref f32)))
    (l32 : K.lookup f32 = some ⟨oc32, od32, .func (PySem.W.fnOf "_law_due" "_law_due" (defArgs s_law_due) (defBody s_law_due) (defScope s_law_due) .none kV32 dc32 pm32 an32 cd32 ct32), sl32⟩)
    (c32 : PySem.W.codeIn K cd32 "_law_due" = true)
    (k32 : PySem.W.keepIn K (.ref f32) = true)
    (a33 : PySem.W.nsIn K mainGlobals "_law_said" = some (some (.ref f33)))
    (l33 : K.lookup f33 = some ⟨oc33, od33, .func (PySem.W.fnOf "_law_said" "_law_said" (defArgs s_law_said) (defBody s_law_said) (defScope s_law_said) .none kV33 dc33 pm33 an33 cd33 ct33), sl33⟩)
    (c33 : PySem.W.codeIn K cd33 "_law_said" = true)
    (k33 : PySem.W.keepIn K (.ref f33) = true)
    (a34 : PySem.W.nsIn K mainGlobals "_law_changed" = some (some (.ref f34)))
    (l34 : K.lookup f34 = some ⟨oc34, od34, .func (PySem.W.fnOf "_law_changed" "_law_changed" (defArgs s_law_changed) (defBody s_law_changed) (defScope s_law_changed) .none kV34 dc34 pm34 an34 cd34 ct34), sl34⟩)
    (c34 : PySem.W.codeIn K cd34 "_law_changed" = true)
    (k34 : PySem.W.keepIn K (.ref f34) = true)
    (a35 : PySem.W.nsIn K mainGlobals "_law_goals" = some (some (.ref f35)))
    (l35 : K.lookup f35 = some ⟨oc35, od35, .func (PySem.W.fnOf "_law_goals" "_law_goals" (defArgs s_law_goals) (defBody s_law_goals) (defScope s_law_goals) .none kV35 dc35 pm35 an35 cd35 ct35), sl35⟩)
    (c35 : PySem.W.codeIn K cd35 "_law_goals" = true)
    (k35 : PySem.W.keepIn K (.ref f35) = true)
    (a36 : PySem.W.nsIn K mainGlobals "_law_is_right" = some (some (.ref f36)))
    (l36 : K.lookup f36 = some ⟨oc36, od36, .func (PySem.W.fnOf "_law_is_right" "_law_is_right" (defArgs s_law_is_right) (defBody s_law_is_right) (defScope s_law_is_right) .none kV36 dc36 pm36 an36 cd36 ct36), sl36⟩)
    (c36 : PySem.W.codeIn K cd36 "_law_is_right" = true)
    (k36 : PySem.W.keepIn K (.ref f36) = true)
    (a37 : PySem.W.nsIn K mainGlobals "law" = some (some (.ref f37)))
    (l37 : K.lookup f37 = some ⟨oc37, od37, .func (PySem.W.fnOf "law" "law" (defArgs s_law) (defBody s_law) (defScope s_law) .none kV37 dc37 pm37 an37 cd37 ct37), sl37⟩)
    (c37 : PySem.W.codeIn K cd37 "law" = true)
    (k37 : PySem.W.keepIn K (.ref f37) = true)
    (xl_InvalidWitness : K.lookup C_InvalidWitness = some (excClassObj nm_InvalidWitness q_InvalidWitness C_InvalidWitness N_InvalidWitness bs_InvalidWitness [.ref B_InvalidWitness, .type "ValueError", .type "Exception", .type "BaseException", .type "object"] true sn_InvalidWitness sub_InvalidWitness ab_InvalidWitness col_InvalidWitness dd_InvalidWitness m0_InvalidWitness m1_InvalidWitness m2_InvalidWitness m3_InvalidWitness m5_InvalidWitness "ValueError.__new__"))
    (sa_InvalidWitness : PySem.W.findIn K (.ref C_InvalidWitness) "__setattr__" = some (some (.builtin "object.__setattr__")))
    (ga_InvalidWitness : PySem.W.findIn K (.ref C_InvalidWitness) "__getattribute__" = some (some (.builtin "BaseException.__getattribute__")))
    (gg_InvalidWitness : PySem.W.findIn K (.ref C_InvalidWitness) "__getattr__" = some none)
    (ti_InvalidWitness : PySem.W.typeIn K (.ref f1) = some (.type "function"))
    (kc_InvalidWitness : PySem.W.keepIn K (.ref C_InvalidWitness) = true)
    (ex_InvalidWitness : PySem.W.subIn K (.ref C_InvalidWitness) (.type "BaseException") = some true)
    (ty_InvalidWitness : PySem.W.typeIn K (.ref C_InvalidWitness) = some (.type "type"))
    (hd_InvalidWitness : PySem.W.hasDictIn K C_InvalidWitness = true)
    (il_InvalidWitness : PySem.W.isClsIn K C_InvalidWitness = true)
    (ss_InvalidWitness : PySem.W.subIn K (.ref C_InvalidWitness) (.ref C_InvalidWitness) = some true)
    (n_InvalidWitness_index : PySem.W.findIn K (.ref C_InvalidWitness) "index" = some none)
    (pg_Table : PySem.W.plainGet K C_Table Str.empty = true)
    (hd_Table : PySem.W.hasDictIn K C_Table = true)
    (po_Table : PySem.W.plainOver K C_Table = true)
    (sa_Table : PySem.W.findIn K (.ref C_Table) "__setattr__" = some (some (.builtin "object.__setattr__")))
    (mk_Table : PySem.W.makesIn K C_Table = true)
    (kc_Table : PySem.W.keepIn K (.ref C_Table) = true)
    (n_Table_rings : PySem.W.findIn K (.ref C_Table) "rings" = some none)
    (ic_Table : PySem.W.findIn K (.ref C_Table) "__class__" = some (some (.builtin "object.__class__")))
    (im_Table : PySem.W.mroIn K C_Table (.type "object") = some true)
    (ig_ : PySem.W.specialIn K (.builtin "object.__class__") "__get__" = some (some (.builtin "getset_descriptor.__get__")))
    (it_ : PySem.W.takesIn K (.builtin "object.__class__") = some true)
    (ic_InvalidWitness : PySem.W.findIn K (.ref C_InvalidWitness) "__class__" = some (some (.builtin "object.__class__")))
    (im_InvalidWitness : PySem.W.mroIn K C_InvalidWitness (.type "object") = some true)
    (ki_InvalidWitness : PySem.W.kitAny K (.ref C_InvalidWitness) [.ref C_InvalidSeat, .ref C_InvalidTargets] = some false)
    (v_MAX_RINGS : PySem.W.nsIn K mainGlobals "MAX_RINGS" = some (some (.int 4 t_MAX_RINGS)))
    (z_abs : PySem.W.nsIn K mainGlobals "abs" = some none)
    (z_all : PySem.W.nsIn K mainGlobals "all" = some none)
    (z_bool : PySem.W.nsIn K mainGlobals "bool" = some none)
    (z_dict : PySem.W.nsIn K mainGlobals "dict" = some none)
    (z_enumerate : PySem.W.nsIn K mainGlobals "enumerate" = some none)
    (z_int : PySem.W.nsIn K mainGlobals "int" = some none)
    (z_isinstance : PySem.W.nsIn K mainGlobals "isinstance" = some none)
    (z_len : PySem.W.nsIn K mainGlobals "len" = some none)
    (z_list : PySem.W.nsIn K mainGlobals "list" = some none)
    (z_max : PySem.W.nsIn K mainGlobals "max" = some none)
    (z_min : PySem.W.nsIn K mainGlobals "min" = some none)
    (z_range : PySem.W.nsIn K mainGlobals "range" = some none)
    (z_repr : PySem.W.nsIn K mainGlobals "repr" = some none)
    (z_str : PySem.W.nsIn K mainGlobals "str" = some none)
    (z_tuple : PySem.W.nsIn K mainGlobals "tuple" = some none)
    (z_zip : PySem.W.nsIn K mainGlobals "zip" = some none)
    : ∃ T : TX K mg, mg "law" = some (.ref T.f_law) ∧ ∀ (s : Shared) (v : Value), BindsTo s T.fd_law ⟨[v], []⟩ [("_law_script", v)] := by
  obtain ⟨T, h1, h2⟩ := all_mk X G aC_InvalidSeat ex_InvalidSeat ty_InvalidSeat il_InvalidSeat aC_InvalidTargets ex_InvalidTargets ty_InvalidTargets il_InvalidTargets aC_InvalidWitness aC_Table a0 l0 c0 k0 a1 i1 l1 c1 k1 a2 l2 c2 k2 a3 l3 c3 k3 a4 l4 c4 k4 a5 i5 l5 c5 k5 a6 i6 l6 c6 k6 a7 i7 l7 c7 k7 a8 i8 l8 c8 k8 a9 i9 l9 c9 k9 a10 i10 l10 c10 k10 a11 i11 l11 c11 k11 a12 i12 l12 c12 k12 a13 i13 l13 c13 k13 a14 i14 l14 c14 k14 a15 l15 c15 k15 a16 l16 c16 k16 a17 l17 c17 k17 a18 l18 c18 k18 a19 l19 c19 k19 a20 l20 c20 k20 a21 l21 c21 k21 a22 l22 c22 k22 a23 l23 c23 k23 a24 l24 c24 k24 a25 l25 c25 k25 a26 l26 c26 k26 a27 l27 c27 k27 a28 l28 c28 k28 a29 l29 c29 k29 a30 l30 c30 k30 a31 l31 c31 k31 a32 l32 c32 k32 a33 l33 c33 k33 a34 l34 c34 k34 a35 l35 c35 k35 a36 l36 c36 k36 a37 l37 c37 k37 xl_InvalidWitness sa_InvalidWitness ga_InvalidWitness gg_InvalidWitness ti_InvalidWitness kc_InvalidWitness ex_InvalidWitness ty_InvalidWitness hd_InvalidWitness il_InvalidWitness ss_InvalidWitness n_InvalidWitness_index pg_Table hd_Table po_Table sa_Table mk_Table kc_Table n_Table_rings ic_Table im_Table ig_ it_ ic_InvalidWitness im_InvalidWitness ki_InvalidWitness v_MAX_RINGS z_abs z_all z_bool z_dict z_enumerate z_int z_isinstance z_len z_list z_max z_min z_range z_repr z_str z_tuple z_zip
  exact ⟨T, T.m_law, fun s v => by rw [h2]; exact .of_eq rfl⟩
end CS
open PySem PySem.W PyProof.Rows in
set_option maxRecDepth 100000 in
set_option maxHeartbeats 0 in
theorem PySem.Challenge.cw_calledseats_k23_plans_by_others_checked_holds : PySem.Challenge.rw_calledseats_k23_plans_by_others_checked.Holds := by
  w_on; o_law; k_head; (case hw => w_witness2)
  k_fill
  refine CG.walk_ofGT (l := PySem.Challenge.rw_calledseats_k23_plans_by_others_checked) (n := 63) (k := 12) (x := "_law_script") rfl (by decide) rfl ⟨rfl, by decide, by decide⟩ ?F
  case F =>
    intro w mg fa h Y G hmg tabs
    have KX := PySem.W.km_in_of Y
    obtain ⟨T, e1, e2⟩ : ∃ T : CS.TX _ mg, mg "law" = some (.ref T.f_law) ∧ ∀ (s : Shared) (v : Value), BindsTo s T.fd_law ⟨[v], []⟩ [("_law_script", v)] := by
      refine' CS.use_mk KX G ?aC_InvalidSeat ?ex_InvalidSeat ?ty_InvalidSeat ?il_InvalidSeat ?aC_InvalidTargets ?ex_InvalidTargets ?ty_InvalidTargets ?il_InvalidTargets ?aC_InvalidWitness ?aC_Table ?a0 ?l0 ?c0 ?k0 ?a1 ?i1 ?l1 ?c1 ?k1 ?a2 ?l2 ?c2 ?k2 ?a3 ?l3 ?c3 ?k3 ?a4 ?l4 ?c4 ?k4 ?a5 ?i5 ?l5 ?c5 ?k5 ?a6 ?i6 ?l6 ?c6 ?k6 ?a7 ?i7 ?l7 ?c7 ?k7 ?a8 ?i8 ?l8 ?c8 ?k8 ?a9 ?i9 ?l9 ?c9 ?k9 ?a10 ?i10 ?l10 ?c10 ?k10 ?a11 ?i11 ?l11 ?c11 ?k11 ?a12 ?i12 ?l12 ?c12 ?k12 ?a13 ?i13 ?l13 ?c13 ?k13 ?a14 ?i14 ?l14 ?c14 ?k14 ?a15 ?l15 ?c15 ?k15 ?a16 ?l16 ?c16 ?k16 ?a17 ?l17 ?c17 ?k17 ?a18 ?l18 ?c18 ?k18 ?a19 ?l19 ?c19 ?k19 ?a20 ?l20 ?c20 ?k20 ?a21 ?l21 ?c21 ?k21 ?a22 ?l22 ?c22 ?k22 ?a23 ?l23 ?c23 ?k23 ?a24 ?l24 ?c24 ?k24 ?a25 ?l25 ?c25 ?k25 ?a26 ?l26 ?c26 ?k26 ?a27 ?l27 ?c27 ?k27 ?a28 ?l28 ?c28 ?k28 ?a29 ?l29 ?c29 ?k29 ?a30 ?l30 ?c30 ?k30 ?a31 ?l31 ?c31 ?k31 ?a32 ?l32 ?c32 ?k32 ?a33 ?l33 ?c33 ?k33 ?a34 ?l34 ?c34 ?k34 ?a35 ?l35 ?c35 ?k35 ?a36 ?l36 ?c36 ?k36 ?a37 ?l37 ?c37 ?k37 ?xl_InvalidWitness ?sa_InvalidWitness ?ga_InvalidWitness ?gg_InvalidWitness ?ti_InvalidWitness ?kc_InvalidWitness ?ex_InvalidWitness ?ty_InvalidWitness ?hd_InvalidWitness ?il_InvalidWitness ?ss_InvalidWitness ?n_InvalidWitness_index ?pg_Table ?hd_Table ?po_Table ?sa_Table ?mk_Table ?kc_Table ?n_Table_rings ?ic_Table ?im_Table ?ig_ ?it_ ?ic_InvalidWitness ?im_InvalidWitness ?ki_InvalidWitness ?v_MAX_RINGS ?z_abs ?z_all ?z_bool ?z_dict ?z_enumerate ?z_int ?z_isinstance ?z_len ?z_list ?z_max ?z_min ?z_range ?z_repr ?z_str ?z_tuple ?z_zip
      (case aC_InvalidSeat => k_is)
      (case ex_InvalidSeat => k_is)
      (case ty_InvalidSeat => k_is)
      (case il_InvalidSeat => k_is)
      (case aC_InvalidTargets => k_is)
      (case ex_InvalidTargets => k_is)
      (case ty_InvalidTargets => k_is)
      (case il_InvalidTargets => k_is)
      (case aC_InvalidWitness => k_is)
      (case aC_Table => k_is)
      (case a0 => k_is)
      (case l0 => k_is)
      (case c0 => k_is)
      (case k0 => k_is)
      (case a1 => k_is)
      (case i1 => k_is)
      (case l1 => k_is)
      (case c1 => k_is)
      (case k1 => k_is)
      (case a2 => k_is)
      (case l2 => k_is)
      (case c2 => k_is)
      (case k2 => k_is)
      (case a3 => k_is)
      (case l3 => k_is)
      (case c3 => k_is)
      (case k3 => k_is)
      (case a4 => k_is)
      (case l4 => k_is)
      (case c4 => k_is)
      (case k4 => k_is)
      (case a5 => k_is)
      (case i5 => k_is)
      (case l5 => k_is)
      (case c5 => k_is)
      (case k5 => k_is)
      (case a6 => k_is)
      (case i6 => k_is)
      (case l6 => k_is)
      (case c6 => k_is)
      (case k6 => k_is)
      (case a7 => k_is)
      (case i7 => k_is)
      (case l7 => k_is)
      (case c7 => k_is)
      (case k7 => k_is)
      (case a8 => k_is)
      (case i8 => k_is)
      (case l8 => k_is)
      (case c8 => k_is)
      (case k8 => k_is)
      (case a9 => k_is)
      (case i9 => k_is)
      (case l9 => k_is)
      (case c9 => k_is)
      (case k9 => k_is)
      (case a10 => k_is)
      (case i10 => k_is)
      (case l10 => k_is)
      (case c10 => k_is)
      (case k10 => k_is)
      (case a11 => k_is)
      (case i11 => k_is)
      (case l11 => k_is)
      (case c11 => k_is)
      (case k11 => k_is)
      (case a12 => k_is)
      (case i12 => k_is)
      (case l12 => k_is)
      (case c12 => k_is)
      (case k12 => k_is)
      (case a13 => k_is)
      (case i13 => k_is)
      (case l13 => k_is)
      (case c13 => k_is)
      (case k13 => k_is)
      (case a14 => k_is)
      (case i14 => k_is)
      (case l14 => k_is)
      (case c14 => k_is)
      (case k14 => k_is)
      (case a15 => k_is)
      (case l15 => k_is)
      (case c15 => k_is)
      (case k15 => k_is)
      (case a16 => k_is)
      (case l16 => k_is)
      (case c16 => k_is)
      (case k16 => k_is)
      (case a17 => k_is)
      (case l17 => k_is)
      (case c17 => k_is)
      (case k17 => k_is)
      (case a18 => k_is)
      (case l18 => k_is)
      (case c18 => k_is)
      (case k18 => k_is)
      (case a19 => k_is)
      (case l19 => k_is)
      (case c19 => k_is)
      (case k19 => k_is)
      (case a20 => k_is)
      (case l20 => k_is)
      (case c20 => k_is)
      (case k20 => k_is)
      (case a21 => k_is)
      (case l21 => k_is)
      (case c21 => k_is)
      (case k21 => k_is)
      (case a22 => k_is)
      (case l22 => k_is)
      (case c22 => k_is)
      (case k22 => k_is)
      (case a23 => k_is)
      (case l23 => k_is)
      (case c23 => k_is)
      (case k23 => k_is)
      (case a24 => k_is)
      (case l24 => k_is)
      (case c24 => k_is)
      (case k24 => k_is)
      (case a25 => k_is)
      (case l25 => k_is)
      (case c25 => k_is)
      (case k25 => k_is)
      (case a26 => k_is)
      (case l26 => k_is)
      (case c26 => k_is)
      (case k26 => k_is)
      (case a27 => k_is)
      (case l27 => k_is)
      (case c27 => k_is)
      (case k27 => k_is)
      (case a28 => k_is)
      (case l28 => k_is)
      (case c28 => k_is)
      (case k28 => k_is)
      (case a29 => k_is)
      (case l29 => k_is)
      (case c29 => k_is)
      (case k29 => k_is)
      (case a30 => k_is)
      (case l30 => k_is)
      (case c30 => k_is)
      (case k30 => k_is)
      (case a31 => k_is)
      (case l31 => k_is)
      (case c31 => k_is)
      (case k31 => k_is)
      (case a32 => k_is)
      (case l32 => k_is)
      (case c32 => k_is)
      (case k32 => k_is)
      (case a33 => k_is)
      (case l33 => k_is)
      (case c33 => k_is)
      (case k33 => k_is)
      (case a34 => k_is)
      (case l34 => k_is)
      (case c34 => k_is)
      (case k34 => k_is)
      (case a35 => k_is)
      (case l35 => k_is)
      (case c35 => k_is)
      (case k35 => k_is)
      (case a36 => k_is)
      (case l36 => k_is)
      (case c36 => k_is)
      (case k36 => k_is)
      (case a37 => k_is)
      (case l37 => k_is)
      (case c37 => k_is)
      (case k37 => k_is)
      (case xl_InvalidWitness => k_is)
      (case sa_InvalidWitness => k_is)
      (case ga_InvalidWitness => k_is)
      (case gg_InvalidWitness => k_is)
      (case ti_InvalidWitness => k_is)
      (case kc_InvalidWitness => k_is)
      (case ex_InvalidWitness => k_is)
      (case ty_InvalidWitness => k_is)
      (case hd_InvalidWitness => k_is)
      (case il_InvalidWitness => k_is)
      (case ss_InvalidWitness => k_is)
      (case n_InvalidWitness_index => k_is)
      (case pg_Table => k_is)
      (case hd_Table => k_is)
      (case po_Table => k_is)
      (case sa_Table => k_is)
      (case mk_Table => k_is)
      (case kc_Table => k_is)
      (case n_Table_rings => k_is)
      (case ic_Table => k_is)
      (case im_Table => k_is)
      (case ig_ => k_is)
      (case it_ => k_is)
      (case ic_InvalidWitness => k_is)
      (case im_InvalidWitness => k_is)
      (case ki_InvalidWitness => kit_is)
      (case v_MAX_RINGS => k_is)
      (case z_abs => k_is)
      (case z_all => k_is)
      (case z_bool => k_is)
      (case z_dict => k_is)
      (case z_enumerate => k_is)
      (case z_int => k_is)
      (case z_isinstance => k_is)
      (case z_len => k_is)
      (case z_list => k_is)
      (case z_max => k_is)
      (case z_min => k_is)
      (case z_range => k_is)
      (case z_repr => k_is)
      (case z_str => k_is)
      (case z_tuple => k_is)
      (case z_zip => k_is)
    have e := hmg.symm.trans e1
    cases e
    obtain ⟨c0, p0, a0, d0, z0⟩ := CG.TabAt.at (CG.tab_by tabs (x := "_law_is_right") (by decide +kernel)) KX T.m_law_is_right T.F_law_is_right
    refine ⟨_, T.fd_law, CS.sp_law _ p0, [(c0, p0)], KX, (fun p hp => by simp only [List.mem_cons, List.not_mem_nil, or_false] at hp; rcases hp with rfl <;> first | exact z0), ?nt, (fun p hp => by simp only [List.mem_cons, List.not_mem_nil, or_false] at hp; rcases hp with rfl <;> first | exact d0), e2, (fun H a ns hl hT hS => ⟨a, ns, rfl, hS, hl, hT _ (.head _), fun _ => rfl⟩), fun base _ _ TB => CS.ok_law T ⟨c0, p0, a0, TB _ (.head _)⟩⟩
    intro p hp
    refine CG.noTab_at KX (by kernel_rfl) ?_
    simp only [List.mem_cons, List.not_mem_nil, or_false] at hp; rcases hp with rfl <;> first | exact z0
