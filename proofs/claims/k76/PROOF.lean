import PyProof.Rows.All
import Wide.All
import OpenK.AllK
import Wide.FinOn
import HandS.ForMost
import HandS.Zip
import HandS.TupAny
import HandS.TupMul
import HandS.Deep
import HandS.Style
import HandS.SetFor
import HandS.Strs
import HandS.Walk
import HandS.IsInst
import HandS.Conv
import HandS.Wide
import HandS.WideBits
import HandS.Evl
import HandS.MakeKwOnly
import KE.GoesMore
import KE.GoesEnumKw
import KE.KBits
import KE.SortData
import HandS.TupSets
import KE.DatumOrd
import HandS.DictComp
import HandS.DictTup
import HandS.TupLen
import KE.KDictCopyH
import KE.KDictWalk
import KE.KDictKeyed
import PyProof.WalkInts
import PyProof.SeqI3
import HandS.TryOnly
import KE.KStateDown
import HandS.Head0
import HandS.Head1
import HandS.Head2
import HandS.More
import HandS.Defaults
import HandS.HeadEnd
import HandS.HeadHook1
import HandS.HeadHook2
import PySem.Challenge.RW_calledseats_k76_largest_avoided_sets
set_option Elab.async false
set_option linter.all false
set_option maxRecDepth 100000
set_option maxHeartbeats 4000000


namespace CZ
open PySem PySem.Spec PyProof.Rows L2
open PySem.Sem (wp)
/-- one draw of a zip: strict or not -/
def zdraw (b : Bool) (it : Value) : Sem (Option Value) := if b = true then Builtin.SmallTypes.nextOrEnd it else (Builtin.SmallTypes.nextOf it >>= fun x => pure (some x))
/-- a zip object: f0 what it has handed out, b its strictness -/
abbrev ZipO (h : Heap) (z TI TO : Addr) (f0 : Value) (b : Bool) : Prop := h.get? z = some { cls := .type "zip", data := .fields #[f0, .bool false, .bool b, .ref TI, .ref TO] }
abbrev TupO (h : Heap) (T : Addr) (vs : Array Value) : Prop := h.get? T = some { cls := .type "tuple", data := .seq vs }
theorem val_b (b : Bool) : (Value.bool b == Value.bool true) = b := by cases b <;> rfl
section
variable {prog : Program} {w : World} {A : Around} {E : Value → Shared → Prop} {s : Shared} {b : Bool}
theorem zdraw_item {it : Addr} {fp : List Addr} {n i : Nat} {P : Nat → Value → Prop} {St : Nat → Heap → Prop} {Q : Option Value → Shared → Prop} (D : Draws prog w A it fp n P St) (hi : i < n) (st : St i s.heap)
    (hQ : ∀ x h' tk, P i x → St (i + 1) h' → Heap.SameBut it s.heap h' → Q (some x) { s with heap := h', toks := tk }) : wpAny (model prog w) A (zdraw b (.ref it)) Q E s := by
  cases b with
  | false => exact wpAny_bind (m := Builtin.SmallTypes.nextOf (.ref it)) (D.item i s _ _ hi st fun x h' tk p st' sb => wpAny_pure (hQ x h' tk p st' sb))
  | true =>
    show wpAny _ _ (Builtin.SmallTypes.nextOrEnd (.ref it)) _ _ _
    unfold Builtin.SmallTypes.nextOrEnd
    exact wpAny_bind (wpAny_attempt (D.item i s _ _ hi st fun x h' tk p st' sb => wpAny_pure (hQ x h' tk p st' sb)))
theorem zend_strict {it : Addr} {fp : List Addr} {n : Nat} {P : Nat → Value → Prop} {St : Nat → Heap → Prop} {Q : Option Value → Shared → Prop} (D : Draws prog w A it fp n P St) (st : St n s.heap)
    (hQ : ∀ h', Heap.ExtBut it s.heap h' → Q none { s with heap := h' }) : wpAny (model prog w) A (Builtin.SmallTypes.nextOrEnd (.ref it)) Q E s := by
  unfold Builtin.SmallTypes.nextOrEnd
  refine wpAny_bind (wpAny_attempt (D.done s _ _ st fun h' e eb he => ?_))
  obtain ⟨o, ho, hc⟩ := he
  exact wpAny_bind (wpAny_isInstance (T := "StopIteration") (b := true) ⟨o, ho, hc⟩ isSubtype_stop (wpAny_pure (hQ h' eb)))
theorem upd_tup {T : Addr} {vs : Array Value} {x : Value} {k : Nat} {Q : Unit → Shared → Prop} (hT : TupO s.heap T vs) (hz : vs.size ≤ 8)
    (h : ∀ h', TupO h' T (vs.setIfInBounds k x) → Heap.SameBut T s.heap h' → Q () { s with heap := h' }) : wpAny (model prog w) A (updateSeq T (·.setIfInBounds k x)) Q E s := by
  have z8 : (8 : Nat) ≤ sizeLine := by decide
  refine wpAny_updateSeq hT rfl (h _ ?_ (Heap.SameBut.update ..)) (Nat.le_trans hz z8) (by rw [Array.size_setIfInBounds]; exact Nat.le_succ_of_le (Nat.le_trans hz z8))
  unfold TupO
  rw [Heap.get?_update_self _ hT rfl]
  simp [Obj.mapSeq]
theorem iter_zip {z TI TO : Addr} {f0 : Value} {Q : Value → Shared → Prop} (hz : ZipO s.heap z TI TO f0 b) (h : Q (.ref z) s) : wpAny (model prog w) A (pyIter (.ref z)) Q E s := by
  have hT : s.TypeIs (.ref z) "zip" := ⟨_, hz, rfl⟩
  exact wpAny_pyIter_slot hT F.slot_zip_iter (wpAny_call_entry F.slot_zip_iter hT F.entry_zip_iter (wpAny_pure ⟨_, rfl, "zip", _, hT, F.slot_zip_next.lookup, h⟩) (F.args_zip_iter_1 _))
/-- the tuple that was handed out is let go -/
theorem go_zip {elts : List Expr} {x1} {pos : Pos} {z TI TO T : Addr} {Q : Unit → Shared → Prop} (hz : ZipO s.heap z TI TO (rawInt T) b)
    (hQ : ∀ h', ZipO h' z TI TO .none b → Heap.SameBut z s.heap h' → Q () { s with heap := h' }) : wpAny (model prog w) A (letOwnedTupleGo (.Tuple elts x1 pos) (.ref z) (.ref T)) Q E s := by
  unfold letOwnedTupleGo
  refine wpAny_bind (wpAny_load hz ?_)
  show wpAny _ _ (ite _ _ _) Q E s
  rw [if_pos (by simp)]
  exact wpAny_bind (wpAny_rule (wpAny_setField_rec hz (by simp) fun h' hz' hs' => hQ h' hz' hs'))
/-- the StopIteration that a zip ends by -/
theorem stop_it {Q : Fin → Shared → Prop} (hh : A.handled = none) (hE : ∀ h' e, (∀ c o, s.heap.get? c = some o → h'.get? c = some o) → (∃ o, h'.get? e = some o ∧ o.cls = .type "StopIteration") → E (.ref e) { s with heap := h' }) :
    wpAny (model prog w) A (PySem.Builtin.SmallTypes.stopIteration : Sem Fin) Q E s := by
  unfold PySem.Builtin.SmallTypes.stopIteration
  show wpAny _ _ (newExc (.type "StopIteration") [] >>= _) _ _ _
  refine wpAny_bind ?_
  simp only [newExc, newTuple]
  refine wpAny_bind (wpAny_newObj_type ?_ (by size_fits))
  refine wpAny_bind (m := firstArgMember _ _) (wpAny_of_eq (a := Value.none) (by first | rfl | (simp only [firstArgMember]; rfl)) ?_)
  refine wpAny_newObj_type ?_ (by size_fits)
  simp only [raiseNew]
  refine wpAny_bind (wpAny_handled ?_)
  rw [hh]
  exact wpAny_bind (wpAny_pure (wpAny_throw (hE _ _ (fun c o e => Heap.get?_push_of_some _ (Heap.get?_push_of_some _ e)) ⟨_, Heap.get?_push_size _ rfl, rfl⟩)))
end
end CZ

namespace CZ
open PySem PySem.Spec PyProof.Rows L2
open PySem.Sem (wp)
/-- the cells of a zip over 2 iterators lie apart -/
structure Sep2 (z TI TO i1 i2 : Addr) (fp1 fp2 : List Addr) : Prop where
  zTO : z ≠ TO
  zTI : z ≠ TI
  TOTI : TO ≠ TI
  m1 : i1 ∈ fp1
  z1 : z ∉ fp1
  T1 : TO ∉ fp1
  I1 : TI ≠ i1
  s2_1 : i2 ∉ fp1
  m2 : i2 ∈ fp2
  z2 : z ∉ fp2
  T2 : TO ∉ fp2
  I2 : TI ≠ i2
  s1_2 : i1 ∉ fp2
section
variable {prog : Program} {w : World} {A : Around} {E : Value → Shared → Prop} {s : Shared} {b : Bool}
theorem next_item2 {z TI TO i1 i2 : Addr} {fp1 fp2 : List Addr} {n1 n2 i : Nat} {P1 P2 : Nat → Value → Prop} {St1 St2 : Nat → Heap → Prop} {a1 a2 : Value} {Q : Value → Shared → Prop} (S : Sep2 z TI TO i1 i2 fp1 fp2) (D1 : Draws prog w A i1 fp1 n1 P1 St1) (D2 : Draws prog w A i2 fp2 n2 P2 St2)
    (hz : ZipO s.heap z TI TO .none b) (hTI : TupO s.heap TI #[.ref i1, .ref i2]) (hTO : TupO s.heap TO #[a1, a2]) (st1 : St1 i s.heap) (st2 : St2 i s.heap) (hi1 : i < n1) (hi2 : i < n2)
    (hQ : ∀ x1 x2 h' tk, P1 i x1 → P2 i x2 → ZipO h' z TI TO (rawInt s.heap.objs.size) b → TupO h' TO #[x1, x2] → St1 (i + 1) h' → St2 (i + 1) h' → TupO h' s.heap.objs.size #[x1, x2] →
      (∀ c o, c ≠ z → c ≠ TO → c ≠ i1 → c ≠ i2 → s.heap.get? c = some o → h'.get? c = some o) → Q (.ref s.heap.objs.size) { s with heap := h', toks := tk }) :
    wpAny (model prog w) A (Builtin.«zip.__next__» ⟨[.ref z], []⟩) (fun fin s' => ∃ v, fin = .done (.ret v) ∧ Q v s') E s := by
  obtain ⟨hp, g, d, tk0, os⟩ := s
  refine wpAny_bind (m := field (.ref z) 2) (wpAny_field hz rfl (x := .bool b) rfl ?_)
  refine wpAny_bind (m := field (.ref z) 3) (wpAny_field hz rfl (x := .ref TI) rfl ?_)
  refine wpAny_bind (wpAny_seqItems hTI rfl ?_)
  show wpAny _ _ (Builtin.SmallTypes.ownedTupleIsFree (.ref z) >>= _) _ _ _
  rw [val_b]
  refine wpAny_bind ?_
  unfold Builtin.SmallTypes.ownedTupleIsFree
  refine wpAny_bind (wpAny_field hz rfl (x := .none) rfl (wpAny_pure ?_))
  simp only [if_true]
  refine wpAny_bind (wpAny_rule (wpAny_bind (wpAny_field hz rfl (x := .ref TO) rfl ?_)))
  refine wpAny_bind (wpAny_setField_rec hz (by simp) fun g0 hz0 hs0 => wpAny_bind ?_)
  replace hs0 : Heap.SameBut z hp g0 := hs0
  replace hz0 : ZipO g0 z TI TO .ellipsis b := hz0
  have hT0 : TupO g0 TO #[a1, a2] := hs0.extBut _ _ S.zTO.symm hTO
  have t1_0 : St1 i g0 := D1.frame _ _ _ st1 fun c hc o e => hs0.extBut c o (fun q => S.z1 (q ▸ hc)) e
  have t2_0 : St2 i g0 := D2.frame _ _ _ st2 fun c hc o e => hs0.extBut c o (fun q => S.z2 (q ▸ hc)) e
  have k0 : ∀ c o, c ≠ z → c ≠ TO → c ≠ i1 → c ≠ i2 → hp.get? c = some o → g0.get? c = some o := fun c o q0 _ _ _ e => hs0.extBut c o q0 e
  simp only [List.zipIdx_cons, List.zipIdx_nil, List.forIn_cons, List.forIn_nil]
  refine wpAny_bind (wpAny_bind (wpAny_onRaise (m := zdraw b (.ref i1)) (zdraw_item (s := ⟨g0, g, d, tk0, os⟩) D1 hi1 t1_0 fun x1 d1 tk1 p1 n1 hd1 => ?_)))
  replace hd1 : Heap.SameBut i1 g0 d1 := hd1
  have hU1 : TupO d1 TO #[a1, a2] := hd1.extBut _ _ (fun q => S.T1 (q ▸ S.m1)) hT0
  refine wpAny_bind (wpAny_seqItems (s := ⟨d1, g, d, tk1, os⟩) hU1 rfl ?_)
  refine wpAny_bind (upd_tup (s := ⟨d1, g, d, tk1, os⟩) hU1 (by simp) fun g1 hT1 hs1 => ?_)
  replace hs1 : Heap.SameBut TO d1 g1 := hs1
  replace hT1 : TupO g1 TO #[x1, a2] := hT1
  have hz1 : ZipO g1 z TI TO .ellipsis b := hs1.extBut _ _ S.zTO (hd1.extBut _ _ (fun q => S.z1 (q ▸ S.m1)) hz0)
  have t1_1 : St1 (i + 1) g1 := D1.frame _ _ _ n1 fun c hc o e => hs1.extBut c o (fun q => S.T1 (q ▸ hc)) e
  have t2_1 : St2 i g1 := D2.frame _ _ _ t2_0 fun c hc o e => hs1.extBut c o (fun q => S.T2 (q ▸ hc)) (hd1.extBut c o (fun q => S.s1_2 (q ▸ hc)) e)
  have k1 : ∀ c o, c ≠ z → c ≠ TO → c ≠ i1 → c ≠ i2 → hp.get? c = some o → g1.get? c = some o := fun c o qz qT q1 q2 e => hs1.extBut c o qT (hd1.extBut c o q1 (k0 c o qz qT q1 q2 e))
  have e1 : g1.objs.size = g0.objs.size := by rw [hs1.1, hd1.1]
  refine wpAny_bind (wpAny_letGo (wpAny_pure ?_))
  refine wpAny_bind (wpAny_bind (wpAny_onRaise (m := zdraw b (.ref i2)) (zdraw_item (s := ⟨g1, g, d, tk1, os⟩) D2 hi2 t2_1 fun x2 d2 tk2 p2 n2 hd2 => ?_)))
  replace hd2 : Heap.SameBut i2 g1 d2 := hd2
  have hU2 : TupO d2 TO #[x1, a2] := hd2.extBut _ _ (fun q => S.T2 (q ▸ S.m2)) hT1
  refine wpAny_bind (wpAny_seqItems (s := ⟨d2, g, d, tk2, os⟩) hU2 rfl ?_)
  refine wpAny_bind (upd_tup (s := ⟨d2, g, d, tk2, os⟩) hU2 (by simp) fun g2 hT2 hs2 => ?_)
  replace hs2 : Heap.SameBut TO d2 g2 := hs2
  replace hT2 : TupO g2 TO #[x1, x2] := hT2
  have hz2 : ZipO g2 z TI TO .ellipsis b := hs2.extBut _ _ S.zTO (hd2.extBut _ _ (fun q => S.z2 (q ▸ S.m2)) hz1)
  have t1_2 : St1 (i + 1) g2 := D1.frame _ _ _ t1_1 fun c hc o e => hs2.extBut c o (fun q => S.T1 (q ▸ hc)) (hd2.extBut c o (fun q => S.s2_1 (q ▸ hc)) e)
  have t2_2 : St2 (i + 1) g2 := D2.frame _ _ _ n2 fun c hc o e => hs2.extBut c o (fun q => S.T2 (q ▸ hc)) e
  have k2 : ∀ c o, c ≠ z → c ≠ TO → c ≠ i1 → c ≠ i2 → hp.get? c = some o → g2.get? c = some o := fun c o qz qT q1 q2 e => hs2.extBut c o qT (hd2.extBut c o q2 (k1 c o qz qT q1 q2 e))
  have e2 : g2.objs.size = g1.objs.size := by rw [hs2.1, hd2.1]
  refine wpAny_bind (wpAny_letGo (wpAny_pure ?_))
  refine wpAny_pure ?_
  refine wpAny_bind (wpAny_seqItems (s := ⟨g2, g, d, tk2, os⟩) hT2 rfl ?_)
  refine wpAny_bind (wpAny_newTuple ?_)
  have hsz : g2.objs.size = hp.objs.size := by rw [e2, e1, hs0.1]
  have hlt : z < g2.objs.size := Heap.lt_size hz2
  refine wpAny_bind ?_
  unfold Builtin.SmallTypes.ownedTupleHandOut
  have hy : ZipO (g2.push { cls := .type "tuple", data := .seq #[x1, x2] }) z TI TO .ellipsis b := Heap.get?_push_of_some _ hz2
  refine wpAny_bind (wpAny_setField_rec hy (by simp) fun u1 hu1 hv1 => wpAny_setField_rec hu1 (by simp) fun u2 hu2 hv2 => ?_)
  have up : ∀ c o, c ≠ z → g2.get? c = some o → u2.get? c = some o := fun c o q e => hv2.extBut c o q (hv1.extBut c o q (Heap.get?_push_of_some _ e))
  have hN : TupO u2 g2.objs.size #[x1, x2] := hv2.extBut _ _ (Nat.ne_of_gt hlt) (hv1.extBut _ _ (Nat.ne_of_gt hlt) (Heap.get?_push_size _ rfl))
  have hZ : ZipO u2 z TI TO (rawInt g2.objs.size) b := hu2
  rw [hsz] at hN hZ
  refine wpAny_pure ⟨_, rfl, ?_⟩
  show Q (.ref g2.objs.size) ⟨u2, g, d, tk2, os⟩
  rw [hsz]
  exact hQ x1 x2 u2 tk2 p1 p2 hZ (up _ _ S.zTO.symm hT2) (D1.frame _ _ _ t1_2 fun c hc o e => up c o (fun q => S.z1 (q ▸ hc)) e) (D2.frame _ _ _ t2_2 fun c hc o e => up c o (fun q => S.z2 (q ▸ hc)) e) hN fun c o qz qT q1 q2 e => up c o qz (k2 c o qz qT q1 q2 e)
theorem next_end2 {z TI TO i1 i2 : Addr} {fp1 fp2 : List Addr} {n : Nat} {P1 P2 : Nat → Value → Prop} {St1 St2 : Nat → Heap → Prop} {a1 a2 : Value} {Q : Fin → Shared → Prop} (hh : A.handled = none) (S : Sep2 z TI TO i1 i2 fp1 fp2) (D1 : Draws prog w A i1 fp1 n P1 St1) (D2 : Draws prog w A i2 fp2 n P2 St2)
    (hz : ZipO s.heap z TI TO .none b) (hTI : TupO s.heap TI #[.ref i1, .ref i2]) (hTO : TupO s.heap TO #[a1, a2]) (st1 : St1 n s.heap) (st2 : St2 n s.heap)
    (hE : ∀ h' e, (∀ c o, c ≠ z → c ≠ TO → c ≠ i1 → c ≠ i2 → s.heap.get? c = some o → h'.get? c = some o) → (∃ o, h'.get? e = some o ∧ o.cls = .type "StopIteration") → E (.ref e) { s with heap := h' }) :
    wpAny (model prog w) A (Builtin.«zip.__next__» ⟨[.ref z], []⟩) Q E s := by
  obtain ⟨hp, g, d, tk0, os⟩ := s
  refine wpAny_bind (m := field (.ref z) 2) (wpAny_field hz rfl (x := .bool b) rfl ?_)
  refine wpAny_bind (m := field (.ref z) 3) (wpAny_field hz rfl (x := .ref TI) rfl ?_)
  refine wpAny_bind (wpAny_seqItems hTI rfl ?_)
  show wpAny _ _ (Builtin.SmallTypes.ownedTupleIsFree (.ref z) >>= _) _ _ _
  rw [val_b]
  refine wpAny_bind ?_
  unfold Builtin.SmallTypes.ownedTupleIsFree
  refine wpAny_bind (wpAny_field hz rfl (x := .none) rfl (wpAny_pure ?_))
  simp only [if_true]
  refine wpAny_bind (wpAny_rule (wpAny_bind (wpAny_field hz rfl (x := .ref TO) rfl ?_)))
  refine wpAny_bind (wpAny_setField_rec hz (by simp) fun g0 hz0 hs0 => wpAny_bind ?_)
  replace hs0 : Heap.SameBut z hp g0 := hs0
  replace hz0 : ZipO g0 z TI TO .ellipsis b := hz0
  have t1_0 : St1 n g0 := D1.frame _ _ _ st1 fun c hc o e => hs0.extBut c o (fun q => S.z1 (q ▸ hc)) e
  have t2_0 : St2 n g0 := D2.frame _ _ _ st2 fun c hc o e => hs0.extBut c o (fun q => S.z2 (q ▸ hc)) e
  simp only [List.zipIdx_cons, List.zipIdx_nil, List.forIn_cons, List.forIn_nil]
  refine wpAny_bind (wpAny_bind (wpAny_onRaise ?_))
  cases b with
  | false =>
    refine wpAny_bind (m := Builtin.SmallTypes.nextOf (.ref i1)) (D1.done ⟨g0, g, d, tk0, os⟩ _ _ t1_0 fun y e hy he => ?_)
    replace hy : Heap.ExtBut i1 g0 y := hy
    obtain ⟨oe, hoe, hce⟩ := he
    replace hoe : y.get? e = some oe := hoe
    have hzy : ZipO y z TI TO .ellipsis false := hy _ _ (fun q => S.z1 (q ▸ S.m1)) hz0
    have hez : e ≠ z := fun x => by subst x; rw [hzy] at hoe; cases hoe; simp at hce
    refine wpAny_setField_rec (s := ⟨y, g, d, tk0, os⟩) hzy (by simp) fun y2 _ hv => ?_
    replace hv : Heap.SameBut z y y2 := hv
    exact hE y2 e (fun c o qz qT q1 q2 x => hv.extBut c o qz (hy c o q1 (hs0.extBut c o qz x))) ⟨oe, hv.extBut _ _ hez hoe, hce⟩
  | true =>
    refine zend_strict (s := ⟨g0, g, d, tk0, os⟩) D1 t1_0 fun y hy => ?_
    replace hy : Heap.ExtBut i1 g0 y := hy
    have hzy : ZipO y z TI TO .ellipsis true := hy _ _ (fun q => S.z1 (q ▸ S.m1)) hz0
    have t2_1 : St2 n y := D2.frame _ _ _ t2_0 fun c hc o e => hy c o (fun q => S.s1_2 (q ▸ hc)) e
    refine wpAny_bind (wpAny_setField_rec (s := ⟨y, g, d, tk0, os⟩) hzy (by simp) fun y1 _ hv1 => ?_)
    replace hv1 : Heap.SameBut z y y1 := hv1
    have r2_1 : St2 n y1 := D2.frame _ _ _ t2_1 fun c hc o e => hv1.extBut c o (fun q => S.z2 (q ▸ hc)) e
    have k1 : ∀ c o, c ≠ z → c ≠ TO → c ≠ i1 → c ≠ i2 → hp.get? c = some o → y1.get? c = some o := fun c o qz qT q1 q2 e => hv1.extBut c o qz (hy c o q1 (hs0.extBut c o qz e))
    refine wpAny_bind ?_
    refine wpAny_bind ?_
    simp only [List.drop_succ_cons, List.drop_zero, List.zipIdx_cons, List.zipIdx_nil, List.forIn_cons, List.forIn_nil]
    refine wpAny_bind (wpAny_bind (zend_strict (s := ⟨y1, g, d, tk0, os⟩) D2 r2_1 fun y2 hy2 => ?_))
    replace hy2 : Heap.ExtBut i2 y1 y2 := hy2
    have k2 : ∀ c o, c ≠ z → c ≠ TO → c ≠ i1 → c ≠ i2 → hp.get? c = some o → y2.get? c = some o := fun c o qz qT q1 q2 e => hy2 c o q2 (k1 c o qz qT q1 q2 e)
    refine wpAny_pure ?_
    refine wpAny_pure ?_
    exact wpAny_bind (wpAny_rule (stop_it (s := ⟨y2, g, d, tk0, os⟩) hh fun h2 e kk he => hE h2 e (fun c o qz qT q1 q2 x => kk c o (k2 c o qz qT q1 q2 x)) he))
theorem py_item2 {z TI TO i1 i2 : Addr} {fp1 fp2 : List Addr} {n1 n2 i : Nat} {P1 P2 : Nat → Value → Prop} {St1 St2 : Nat → Heap → Prop} {a1 a2 : Value} {Q : Option Value → Shared → Prop} (S : Sep2 z TI TO i1 i2 fp1 fp2) (D1 : Draws prog w A.in1 i1 fp1 n1 P1 St1) (D2 : Draws prog w A.in1 i2 fp2 n2 P2 St2)
    (hz : ZipO s.heap z TI TO .none b) (hTI : TupO s.heap TI #[.ref i1, .ref i2]) (hTO : TupO s.heap TO #[a1, a2]) (st1 : St1 i s.heap) (st2 : St2 i s.heap) (hi1 : i < n1) (hi2 : i < n2)
    (hQ : ∀ x1 x2 h' tk, P1 i x1 → P2 i x2 → ZipO h' z TI TO (rawInt s.heap.objs.size) b → TupO h' TO #[x1, x2] → St1 (i + 1) h' → St2 (i + 1) h' → TupO h' s.heap.objs.size #[x1, x2] →
      (∀ c o, c ≠ z → c ≠ TO → c ≠ i1 → c ≠ i2 → s.heap.get? c = some o → h'.get? c = some o) → Q (some (.ref s.heap.objs.size)) { s with heap := h', toks := tk }) : wpAny (model prog w) A (pyNext (.ref z)) Q E s := by
  have hT : s.TypeIs (.ref z) "zip" := ⟨_, hz, rfl⟩
  unfold pyNext
  refine wpAny_bind (wpAny_attempt (wpAny_callSpecial?_slot (name := Str.ofString "__next__") hT F.slot_zip_next (wpAny_call_entry F.slot_zip_next hT F.entry_zip_next ?_ (F.args_zip_next_1 _))))
  exact next_item2 S D1 D2 hz hTI hTO st1 st2 hi1 hi2 fun x1 x2 h2 tk p1 p2 q1 q2 u1 u2 q3 q4 => wpAny_pure (hQ x1 x2 h2 tk p1 p2 q1 q2 u1 u2 q3 q4)
theorem py_end2 {z TI TO i1 i2 : Addr} {fp1 fp2 : List Addr} {n : Nat} {P1 P2 : Nat → Value → Prop} {St1 St2 : Nat → Heap → Prop} {a1 a2 : Value} {Q : Option Value → Shared → Prop} (hh : A.handled = none) (S : Sep2 z TI TO i1 i2 fp1 fp2) (D1 : Draws prog w A.in1 i1 fp1 n P1 St1) (D2 : Draws prog w A.in1 i2 fp2 n P2 St2)
    (hz : ZipO s.heap z TI TO .none b) (hTI : TupO s.heap TI #[.ref i1, .ref i2]) (hTO : TupO s.heap TO #[a1, a2]) (st1 : St1 n s.heap) (st2 : St2 n s.heap)
    (hQ : ∀ h', (∀ c o, c ≠ z → c ≠ TO → c ≠ i1 → c ≠ i2 → s.heap.get? c = some o → h'.get? c = some o) → Q none { s with heap := h' }) : wpAny (model prog w) A (pyNext (.ref z)) Q E s := by
  have hT : s.TypeIs (.ref z) "zip" := ⟨_, hz, rfl⟩
  unfold pyNext
  refine wpAny_bind (wpAny_attempt (wpAny_callSpecial?_slot (name := Str.ofString "__next__") hT F.slot_zip_next (wpAny_call_entry F.slot_zip_next hT F.entry_zip_next ?_ (F.args_zip_next_1 _))))
  refine next_end2 (A := A.in1) hh S D1 D2 hz hTI hTO st1 st2 fun h2 e kk he => ?_
  obtain ⟨o, ho, hc⟩ := he
  exact wpAny_bind (wpAny_isInstance (T := "StopIteration") (b := true) ⟨o, ho, hc⟩ isSubtype_stop (wpAny_pure (hQ _ kk)))
theorem typeCall_strict2 (v1 v2 x : Value) : checkTypeCall "zip" ⟨[v1, v2], [(Str.ofString "strict", x)]⟩ = pure () := by kernel_rfl
theorem newCall_strict2 (v1 v2 x : Value) : checkBuiltinCall "zip.__new__" ⟨[.type "zip", v1, v2], [(Str.ofString "strict", x)]⟩ = pure () := by kernel_rfl
theorem initArgs_strict2 (obj v1 v2 x : Value) : argsOk "object.__init__" ⟨[obj, v1, v2], [(Str.ofString "strict", x)]⟩ := by unfold argsOk; kernel_rfl
abbrev sT2 (h : Heap) (o1 o2 : Obj) : Heap := (((h.push o1).push o2).push { cls := .type "tuple", data := .seq #[.ref h.objs.size, .ref (h.push o1).objs.size] })
abbrev sO2 (h : Heap) (o1 o2 : Obj) : Heap := (sT2 h o1 o2).push { cls := .type "tuple", data := .seq #[.none, .none] }
abbrev sZ2 (h : Heap) (o1 o2 : Obj) : Heap := (sO2 h o1 o2).push { cls := .type "zip", data := .fields #[.none, .bool false, .bool true, .ref ((h.push o1).push o2).objs.size, .ref (sT2 h o1 o2).objs.size] }
theorem meets_strict2 {v1 v2 : Value} {o1 o2 : Obj} {G1 G2 : Heap → Prop} (B1 : Begins v1 o1 G1) (B2 : Begins v2 o2 G2) :
    Meets (Builtin.«zip.__new__» ⟨[.type "zip", v1, v2], [(Str.ofString "strict", .bool true)]⟩) (fun _ R s => (G1 s.heap ∧ G2 s.heap) ∧ R (.ok (.ret (.ref (sO2 s.heap o1 o2).objs.size))) { s with heap := (sZ2 s.heap o1 o2) }) :=
  .of_wp fun prog w A R s h => by
    obtain ⟨hp, g, d, tk, os⟩ := s
    obtain ⟨⟨h1, h2⟩, h⟩ := h
    have hsub := sub_zip
    have e1 : (Str.ofString "strict" != ("strict" : Str)) = false := by decide +kernel
    have w1 : ∀ {A' : Around} {E : Value → Shared → Prop} {Q : Value → Shared → Prop}, Q (.ref hp.objs.size) ⟨(hp.push o1), g, d, tk, os⟩ → wpAny (model prog w) A' (pyIter v1) Q E ⟨hp, g, d, tk, os⟩ := fun q => B1.iter prog w _ _ ⟨hp, g, d, tk, os⟩ _ (B1.keeps _ _ h1 fun c u e => e) q
    have w2 : ∀ {A' : Around} {E : Value → Shared → Prop} {Q : Value → Shared → Prop}, Q (.ref (hp.push o1).objs.size) ⟨((hp.push o1).push o2), g, d, tk, os⟩ → wpAny (model prog w) A' (pyIter v2) Q E ⟨(hp.push o1), g, d, tk, os⟩ := fun q => B2.iter prog w _ _ ⟨(hp.push o1), g, d, tk, os⟩ _ (B2.keeps _ _ h2 fun c u e => (Heap.get?_push_of_some _ e)) q
    wp_walk using w1, w2
    exact ⟨_, rfl, h⟩
/-- zip(.., strict=True) of 2: its new cells -/
theorem begins_strict2 {v1 v2 : Value} {o1 o2 : Obj} {G1 G2 : Heap → Prop} {Q : Value → Shared → Prop} (B1 : Begins v1 o1 G1) (B2 : Begins v2 o2 G2) (h1 : G1 s.heap) (h2 : G2 s.heap)
    (h : ∀ h', ZipO h' (s.heap.objs.size + 4) (s.heap.objs.size + 2) (s.heap.objs.size + 3) .none true → TupO h' (s.heap.objs.size + 2) #[.ref s.heap.objs.size, .ref (s.heap.objs.size + 1)] → TupO h' (s.heap.objs.size + 3) #[.none, .none] → h'.get? s.heap.objs.size = some o1 → h'.get? (s.heap.objs.size + 1) = some o2 → (∀ c o, s.heap.get? c = some o → h'.get? c = some o) → Q (.ref (s.heap.objs.size + 4)) { s with heap := h' }) :
    wpAny (model prog w) A (call (.type "zip") [v1, v2] [(Str.ofString "strict", .bool true)]) Q E s := by
  refine callType_newKw F.called_zip (by decide) (typeCall_strict2 _ _ _) (newCall_strict2 _ _ _) (fun obj => initArgs_strict2 obj _ _ _) F.entry_zip_new (meets_strict2 B1 B2) ⟨⟨h1, h2⟩, ?_⟩
  have z1 : (s.heap.push o1).objs.size = s.heap.objs.size + 1 := by rw [Heap.size_push]
  have z2 : ((s.heap.push o1).push o2).objs.size = s.heap.objs.size + 2 := by rw [Heap.size_push, z1]
  have z3 : (sT2 s.heap o1 o2).objs.size = s.heap.objs.size + 3 := by rw [Heap.size_push, z2]
  have z4 : (sO2 s.heap o1 o2).objs.size = s.heap.objs.size + 4 := by rw [Heap.size_push, z3]
  have z5 : (sZ2 s.heap o1 o2).objs.size = s.heap.objs.size + 5 := by rw [Heap.size_push, z4]
  have q0 : (sZ2 s.heap o1 o2).get? s.heap.objs.size = some o1 := (Heap.get?_push_of_some _ (Heap.get?_push_of_some _ (Heap.get?_push_of_some _ (Heap.get?_push_of_some _ (Heap.get?_push_size _ B1.free)))))
  have q1 : (sZ2 s.heap o1 o2).get? (s.heap.push o1).objs.size = some o2 := (Heap.get?_push_of_some _ (Heap.get?_push_of_some _ (Heap.get?_push_of_some _ (Heap.get?_push_size _ B2.free))))
  rw [z1] at q1
  have q2 : (sZ2 s.heap o1 o2).get? ((s.heap.push o1).push o2).objs.size = some ({ cls := .type "tuple", data := .seq #[.ref s.heap.objs.size, .ref (s.heap.push o1).objs.size] } : Obj) := (Heap.get?_push_of_some _ (Heap.get?_push_of_some _ (Heap.get?_push_size _ rfl)))
  rw [z2] at q2
  have q3 : (sZ2 s.heap o1 o2).get? (sT2 s.heap o1 o2).objs.size = some ({ cls := .type "tuple", data := .seq #[.none, .none] } : Obj) := (Heap.get?_push_of_some _ (Heap.get?_push_size _ rfl))
  rw [z3] at q3
  have q4 : (sZ2 s.heap o1 o2).get? (sO2 s.heap o1 o2).objs.size = some ({ cls := .type "zip", data := .fields #[.none, .bool false, .bool true, .ref ((s.heap.push o1).push o2).objs.size, .ref (sT2 s.heap o1 o2).objs.size] } : Obj) := (Heap.get?_push_size _ rfl)
  rw [z4] at q4
  rw [z1] at q2
  rw [z3, z2] at q4
  show _ ∧ _
  rw [z4]
  exact ⟨⟨_, q4, rfl⟩, h _ q4 q2 q3 q0 q1 fun c o e => (Heap.get?_push_of_some _ (Heap.get?_push_of_some _ (Heap.get?_push_of_some _ (Heap.get?_push_of_some _ (Heap.get?_push_of_some _ e)))))⟩
end
/-- the cells of a zip over 3 iterators lie apart -/
structure Sep3 (z TI TO i1 i2 i3 : Addr) (fp1 fp2 fp3 : List Addr) : Prop where
  zTO : z ≠ TO
  zTI : z ≠ TI
  TOTI : TO ≠ TI
  m1 : i1 ∈ fp1
  z1 : z ∉ fp1
  T1 : TO ∉ fp1
  I1 : TI ≠ i1
  s2_1 : i2 ∉ fp1
  s3_1 : i3 ∉ fp1
  m2 : i2 ∈ fp2
  z2 : z ∉ fp2
  T2 : TO ∉ fp2
  I2 : TI ≠ i2
  s1_2 : i1 ∉ fp2
  s3_2 : i3 ∉ fp2
  m3 : i3 ∈ fp3
  z3 : z ∉ fp3
  T3 : TO ∉ fp3
  I3 : TI ≠ i3
  s1_3 : i1 ∉ fp3
  s2_3 : i2 ∉ fp3
section
variable {prog : Program} {w : World} {A : Around} {E : Value → Shared → Prop} {s : Shared} {b : Bool}
theorem next_item3 {z TI TO i1 i2 i3 : Addr} {fp1 fp2 fp3 : List Addr} {n1 n2 n3 i : Nat} {P1 P2 P3 : Nat → Value → Prop} {St1 St2 St3 : Nat → Heap → Prop} {a1 a2 a3 : Value} {Q : Value → Shared → Prop} (S : Sep3 z TI TO i1 i2 i3 fp1 fp2 fp3) (D1 : Draws prog w A i1 fp1 n1 P1 St1) (D2 : Draws prog w A i2 fp2 n2 P2 St2) (D3 : Draws prog w A i3 fp3 n3 P3 St3)
    (hz : ZipO s.heap z TI TO .none b) (hTI : TupO s.heap TI #[.ref i1, .ref i2, .ref i3]) (hTO : TupO s.heap TO #[a1, a2, a3]) (st1 : St1 i s.heap) (st2 : St2 i s.heap) (st3 : St3 i s.heap) (hi1 : i < n1) (hi2 : i < n2) (hi3 : i < n3)
    (hQ : ∀ x1 x2 x3 h' tk, P1 i x1 → P2 i x2 → P3 i x3 → ZipO h' z TI TO (rawInt s.heap.objs.size) b → TupO h' TO #[x1, x2, x3] → St1 (i + 1) h' → St2 (i + 1) h' → St3 (i + 1) h' → TupO h' s.heap.objs.size #[x1, x2, x3] →
      (∀ c o, c ≠ z → c ≠ TO → c ≠ i1 → c ≠ i2 → c ≠ i3 → s.heap.get? c = some o → h'.get? c = some o) → Q (.ref s.heap.objs.size) { s with heap := h', toks := tk }) :
    wpAny (model prog w) A (Builtin.«zip.__next__» ⟨[.ref z], []⟩) (fun fin s' => ∃ v, fin = .done (.ret v) ∧ Q v s') E s := by
  obtain ⟨hp, g, d, tk0, os⟩ := s
  refine wpAny_bind (m := field (.ref z) 2) (wpAny_field hz rfl (x := .bool b) rfl ?_)
  refine wpAny_bind (m := field (.ref z) 3) (wpAny_field hz rfl (x := .ref TI) rfl ?_)
  refine wpAny_bind (wpAny_seqItems hTI rfl ?_)
  show wpAny _ _ (Builtin.SmallTypes.ownedTupleIsFree (.ref z) >>= _) _ _ _
  rw [val_b]
  refine wpAny_bind ?_
  unfold Builtin.SmallTypes.ownedTupleIsFree
  refine wpAny_bind (wpAny_field hz rfl (x := .none) rfl (wpAny_pure ?_))
  simp only [if_true]
  refine wpAny_bind (wpAny_rule (wpAny_bind (wpAny_field hz rfl (x := .ref TO) rfl ?_)))
  refine wpAny_bind (wpAny_setField_rec hz (by simp) fun g0 hz0 hs0 => wpAny_bind ?_)
  replace hs0 : Heap.SameBut z hp g0 := hs0
  replace hz0 : ZipO g0 z TI TO .ellipsis b := hz0
  have hT0 : TupO g0 TO #[a1, a2, a3] := hs0.extBut _ _ S.zTO.symm hTO
  have t1_0 : St1 i g0 := D1.frame _ _ _ st1 fun c hc o e => hs0.extBut c o (fun q => S.z1 (q ▸ hc)) e
  have t2_0 : St2 i g0 := D2.frame _ _ _ st2 fun c hc o e => hs0.extBut c o (fun q => S.z2 (q ▸ hc)) e
  have t3_0 : St3 i g0 := D3.frame _ _ _ st3 fun c hc o e => hs0.extBut c o (fun q => S.z3 (q ▸ hc)) e
  have k0 : ∀ c o, c ≠ z → c ≠ TO → c ≠ i1 → c ≠ i2 → c ≠ i3 → hp.get? c = some o → g0.get? c = some o := fun c o q0 _ _ _ _ e => hs0.extBut c o q0 e
  simp only [List.zipIdx_cons, List.zipIdx_nil, List.forIn_cons, List.forIn_nil]
  refine wpAny_bind (wpAny_bind (wpAny_onRaise (m := zdraw b (.ref i1)) (zdraw_item (s := ⟨g0, g, d, tk0, os⟩) D1 hi1 t1_0 fun x1 d1 tk1 p1 n1 hd1 => ?_)))
  replace hd1 : Heap.SameBut i1 g0 d1 := hd1
  have hU1 : TupO d1 TO #[a1, a2, a3] := hd1.extBut _ _ (fun q => S.T1 (q ▸ S.m1)) hT0
  refine wpAny_bind (wpAny_seqItems (s := ⟨d1, g, d, tk1, os⟩) hU1 rfl ?_)
  refine wpAny_bind (upd_tup (s := ⟨d1, g, d, tk1, os⟩) hU1 (by simp) fun g1 hT1 hs1 => ?_)
  replace hs1 : Heap.SameBut TO d1 g1 := hs1
  replace hT1 : TupO g1 TO #[x1, a2, a3] := hT1
  have hz1 : ZipO g1 z TI TO .ellipsis b := hs1.extBut _ _ S.zTO (hd1.extBut _ _ (fun q => S.z1 (q ▸ S.m1)) hz0)
  have t1_1 : St1 (i + 1) g1 := D1.frame _ _ _ n1 fun c hc o e => hs1.extBut c o (fun q => S.T1 (q ▸ hc)) e
  have t2_1 : St2 i g1 := D2.frame _ _ _ t2_0 fun c hc o e => hs1.extBut c o (fun q => S.T2 (q ▸ hc)) (hd1.extBut c o (fun q => S.s1_2 (q ▸ hc)) e)
  have t3_1 : St3 i g1 := D3.frame _ _ _ t3_0 fun c hc o e => hs1.extBut c o (fun q => S.T3 (q ▸ hc)) (hd1.extBut c o (fun q => S.s1_3 (q ▸ hc)) e)
  have k1 : ∀ c o, c ≠ z → c ≠ TO → c ≠ i1 → c ≠ i2 → c ≠ i3 → hp.get? c = some o → g1.get? c = some o := fun c o qz qT q1 q2 q3 e => hs1.extBut c o qT (hd1.extBut c o q1 (k0 c o qz qT q1 q2 q3 e))
  have e1 : g1.objs.size = g0.objs.size := by rw [hs1.1, hd1.1]
  refine wpAny_bind (wpAny_letGo (wpAny_pure ?_))
  refine wpAny_bind (wpAny_bind (wpAny_onRaise (m := zdraw b (.ref i2)) (zdraw_item (s := ⟨g1, g, d, tk1, os⟩) D2 hi2 t2_1 fun x2 d2 tk2 p2 n2 hd2 => ?_)))
  replace hd2 : Heap.SameBut i2 g1 d2 := hd2
  have hU2 : TupO d2 TO #[x1, a2, a3] := hd2.extBut _ _ (fun q => S.T2 (q ▸ S.m2)) hT1
  refine wpAny_bind (wpAny_seqItems (s := ⟨d2, g, d, tk2, os⟩) hU2 rfl ?_)
  refine wpAny_bind (upd_tup (s := ⟨d2, g, d, tk2, os⟩) hU2 (by simp) fun g2 hT2 hs2 => ?_)
  replace hs2 : Heap.SameBut TO d2 g2 := hs2
  replace hT2 : TupO g2 TO #[x1, x2, a3] := hT2
  have hz2 : ZipO g2 z TI TO .ellipsis b := hs2.extBut _ _ S.zTO (hd2.extBut _ _ (fun q => S.z2 (q ▸ S.m2)) hz1)
  have t1_2 : St1 (i + 1) g2 := D1.frame _ _ _ t1_1 fun c hc o e => hs2.extBut c o (fun q => S.T1 (q ▸ hc)) (hd2.extBut c o (fun q => S.s2_1 (q ▸ hc)) e)
  have t2_2 : St2 (i + 1) g2 := D2.frame _ _ _ n2 fun c hc o e => hs2.extBut c o (fun q => S.T2 (q ▸ hc)) e
  have t3_2 : St3 i g2 := D3.frame _ _ _ t3_1 fun c hc o e => hs2.extBut c o (fun q => S.T3 (q ▸ hc)) (hd2.extBut c o (fun q => S.s2_3 (q ▸ hc)) e)
  have k2 : ∀ c o, c ≠ z → c ≠ TO → c ≠ i1 → c ≠ i2 → c ≠ i3 → hp.get? c = some o → g2.get? c = some o := fun c o qz qT q1 q2 q3 e => hs2.extBut c o qT (hd2.extBut c o q2 (k1 c o qz qT q1 q2 q3 e))
  have e2 : g2.objs.size = g1.objs.size := by rw [hs2.1, hd2.1]
  refine wpAny_bind (wpAny_letGo (wpAny_pure ?_))
  refine wpAny_bind (wpAny_bind (wpAny_onRaise (m := zdraw b (.ref i3)) (zdraw_item (s := ⟨g2, g, d, tk2, os⟩) D3 hi3 t3_2 fun x3 d3 tk3 p3 n3 hd3 => ?_)))
  replace hd3 : Heap.SameBut i3 g2 d3 := hd3
  have hU3 : TupO d3 TO #[x1, x2, a3] := hd3.extBut _ _ (fun q => S.T3 (q ▸ S.m3)) hT2
  refine wpAny_bind (wpAny_seqItems (s := ⟨d3, g, d, tk3, os⟩) hU3 rfl ?_)
  refine wpAny_bind (upd_tup (s := ⟨d3, g, d, tk3, os⟩) hU3 (by simp) fun g3 hT3 hs3 => ?_)
  replace hs3 : Heap.SameBut TO d3 g3 := hs3
  replace hT3 : TupO g3 TO #[x1, x2, x3] := hT3
  have hz3 : ZipO g3 z TI TO .ellipsis b := hs3.extBut _ _ S.zTO (hd3.extBut _ _ (fun q => S.z3 (q ▸ S.m3)) hz2)
  have t1_3 : St1 (i + 1) g3 := D1.frame _ _ _ t1_2 fun c hc o e => hs3.extBut c o (fun q => S.T1 (q ▸ hc)) (hd3.extBut c o (fun q => S.s3_1 (q ▸ hc)) e)
  have t2_3 : St2 (i + 1) g3 := D2.frame _ _ _ t2_2 fun c hc o e => hs3.extBut c o (fun q => S.T2 (q ▸ hc)) (hd3.extBut c o (fun q => S.s3_2 (q ▸ hc)) e)
  have t3_3 : St3 (i + 1) g3 := D3.frame _ _ _ n3 fun c hc o e => hs3.extBut c o (fun q => S.T3 (q ▸ hc)) e
  have k3 : ∀ c o, c ≠ z → c ≠ TO → c ≠ i1 → c ≠ i2 → c ≠ i3 → hp.get? c = some o → g3.get? c = some o := fun c o qz qT q1 q2 q3 e => hs3.extBut c o qT (hd3.extBut c o q3 (k2 c o qz qT q1 q2 q3 e))
  have e3 : g3.objs.size = g2.objs.size := by rw [hs3.1, hd3.1]
  refine wpAny_bind (wpAny_letGo (wpAny_pure ?_))
  refine wpAny_pure ?_
  refine wpAny_bind (wpAny_seqItems (s := ⟨g3, g, d, tk3, os⟩) hT3 rfl ?_)
  refine wpAny_bind (wpAny_newTuple ?_)
  have hsz : g3.objs.size = hp.objs.size := by rw [e3, e2, e1, hs0.1]
  have hlt : z < g3.objs.size := Heap.lt_size hz3
  refine wpAny_bind ?_
  unfold Builtin.SmallTypes.ownedTupleHandOut
  have hy : ZipO (g3.push { cls := .type "tuple", data := .seq #[x1, x2, x3] }) z TI TO .ellipsis b := Heap.get?_push_of_some _ hz3
  refine wpAny_bind (wpAny_setField_rec hy (by simp) fun u1 hu1 hv1 => wpAny_setField_rec hu1 (by simp) fun u2 hu2 hv2 => ?_)
  have up : ∀ c o, c ≠ z → g3.get? c = some o → u2.get? c = some o := fun c o q e => hv2.extBut c o q (hv1.extBut c o q (Heap.get?_push_of_some _ e))
  have hN : TupO u2 g3.objs.size #[x1, x2, x3] := hv2.extBut _ _ (Nat.ne_of_gt hlt) (hv1.extBut _ _ (Nat.ne_of_gt hlt) (Heap.get?_push_size _ rfl))
  have hZ : ZipO u2 z TI TO (rawInt g3.objs.size) b := hu2
  rw [hsz] at hN hZ
  refine wpAny_pure ⟨_, rfl, ?_⟩
  show Q (.ref g3.objs.size) ⟨u2, g, d, tk3, os⟩
  rw [hsz]
  exact hQ x1 x2 x3 u2 tk3 p1 p2 p3 hZ (up _ _ S.zTO.symm hT3) (D1.frame _ _ _ t1_3 fun c hc o e => up c o (fun q => S.z1 (q ▸ hc)) e) (D2.frame _ _ _ t2_3 fun c hc o e => up c o (fun q => S.z2 (q ▸ hc)) e) (D3.frame _ _ _ t3_3 fun c hc o e => up c o (fun q => S.z3 (q ▸ hc)) e) hN fun c o qz qT q1 q2 q3 e => up c o qz (k3 c o qz qT q1 q2 q3 e)
theorem next_end3 {z TI TO i1 i2 i3 : Addr} {fp1 fp2 fp3 : List Addr} {n : Nat} {P1 P2 P3 : Nat → Value → Prop} {St1 St2 St3 : Nat → Heap → Prop} {a1 a2 a3 : Value} {Q : Fin → Shared → Prop} (hh : A.handled = none) (S : Sep3 z TI TO i1 i2 i3 fp1 fp2 fp3) (D1 : Draws prog w A i1 fp1 n P1 St1) (D2 : Draws prog w A i2 fp2 n P2 St2) (D3 : Draws prog w A i3 fp3 n P3 St3)
    (hz : ZipO s.heap z TI TO .none b) (hTI : TupO s.heap TI #[.ref i1, .ref i2, .ref i3]) (hTO : TupO s.heap TO #[a1, a2, a3]) (st1 : St1 n s.heap) (st2 : St2 n s.heap) (st3 : St3 n s.heap)
    (hE : ∀ h' e, (∀ c o, c ≠ z → c ≠ TO → c ≠ i1 → c ≠ i2 → c ≠ i3 → s.heap.get? c = some o → h'.get? c = some o) → (∃ o, h'.get? e = some o ∧ o.cls = .type "StopIteration") → E (.ref e) { s with heap := h' }) :
    wpAny (model prog w) A (Builtin.«zip.__next__» ⟨[.ref z], []⟩) Q E s := by
  obtain ⟨hp, g, d, tk0, os⟩ := s
  refine wpAny_bind (m := field (.ref z) 2) (wpAny_field hz rfl (x := .bool b) rfl ?_)
  refine wpAny_bind (m := field (.ref z) 3) (wpAny_field hz rfl (x := .ref TI) rfl ?_)
  refine wpAny_bind (wpAny_seqItems hTI rfl ?_)
  show wpAny _ _ (Builtin.SmallTypes.ownedTupleIsFree (.ref z) >>= _) _ _ _
  rw [val_b]
  refine wpAny_bind ?_
  unfold Builtin.SmallTypes.ownedTupleIsFree
  refine wpAny_bind (wpAny_field hz rfl (x := .none) rfl (wpAny_pure ?_))
  simp only [if_true]
  refine wpAny_bind (wpAny_rule (wpAny_bind (wpAny_field hz rfl (x := .ref TO) rfl ?_)))
  refine wpAny_bind (wpAny_setField_rec hz (by simp) fun g0 hz0 hs0 => wpAny_bind ?_)
  replace hs0 : Heap.SameBut z hp g0 := hs0
  replace hz0 : ZipO g0 z TI TO .ellipsis b := hz0
  have t1_0 : St1 n g0 := D1.frame _ _ _ st1 fun c hc o e => hs0.extBut c o (fun q => S.z1 (q ▸ hc)) e
  have t2_0 : St2 n g0 := D2.frame _ _ _ st2 fun c hc o e => hs0.extBut c o (fun q => S.z2 (q ▸ hc)) e
  have t3_0 : St3 n g0 := D3.frame _ _ _ st3 fun c hc o e => hs0.extBut c o (fun q => S.z3 (q ▸ hc)) e
  simp only [List.zipIdx_cons, List.zipIdx_nil, List.forIn_cons, List.forIn_nil]
  refine wpAny_bind (wpAny_bind (wpAny_onRaise ?_))
  cases b with
  | false =>
    refine wpAny_bind (m := Builtin.SmallTypes.nextOf (.ref i1)) (D1.done ⟨g0, g, d, tk0, os⟩ _ _ t1_0 fun y e hy he => ?_)
    replace hy : Heap.ExtBut i1 g0 y := hy
    obtain ⟨oe, hoe, hce⟩ := he
    replace hoe : y.get? e = some oe := hoe
    have hzy : ZipO y z TI TO .ellipsis false := hy _ _ (fun q => S.z1 (q ▸ S.m1)) hz0
    have hez : e ≠ z := fun x => by subst x; rw [hzy] at hoe; cases hoe; simp at hce
    refine wpAny_setField_rec (s := ⟨y, g, d, tk0, os⟩) hzy (by simp) fun y2 _ hv => ?_
    replace hv : Heap.SameBut z y y2 := hv
    exact hE y2 e (fun c o qz qT q1 q2 q3 x => hv.extBut c o qz (hy c o q1 (hs0.extBut c o qz x))) ⟨oe, hv.extBut _ _ hez hoe, hce⟩
  | true =>
    refine zend_strict (s := ⟨g0, g, d, tk0, os⟩) D1 t1_0 fun y hy => ?_
    replace hy : Heap.ExtBut i1 g0 y := hy
    have hzy : ZipO y z TI TO .ellipsis true := hy _ _ (fun q => S.z1 (q ▸ S.m1)) hz0
    have t2_1 : St2 n y := D2.frame _ _ _ t2_0 fun c hc o e => hy c o (fun q => S.s1_2 (q ▸ hc)) e
    have t3_1 : St3 n y := D3.frame _ _ _ t3_0 fun c hc o e => hy c o (fun q => S.s1_3 (q ▸ hc)) e
    refine wpAny_bind (wpAny_setField_rec (s := ⟨y, g, d, tk0, os⟩) hzy (by simp) fun y1 _ hv1 => ?_)
    replace hv1 : Heap.SameBut z y y1 := hv1
    have r2_1 : St2 n y1 := D2.frame _ _ _ t2_1 fun c hc o e => hv1.extBut c o (fun q => S.z2 (q ▸ hc)) e
    have r3_1 : St3 n y1 := D3.frame _ _ _ t3_1 fun c hc o e => hv1.extBut c o (fun q => S.z3 (q ▸ hc)) e
    have k1 : ∀ c o, c ≠ z → c ≠ TO → c ≠ i1 → c ≠ i2 → c ≠ i3 → hp.get? c = some o → y1.get? c = some o := fun c o qz qT q1 q2 q3 e => hv1.extBut c o qz (hy c o q1 (hs0.extBut c o qz e))
    refine wpAny_bind ?_
    refine wpAny_bind ?_
    simp only [List.drop_succ_cons, List.drop_zero, List.zipIdx_cons, List.zipIdx_nil, List.forIn_cons, List.forIn_nil]
    refine wpAny_bind (wpAny_bind (zend_strict (s := ⟨y1, g, d, tk0, os⟩) D2 r2_1 fun y2 hy2 => ?_))
    replace hy2 : Heap.ExtBut i2 y1 y2 := hy2
    have k2 : ∀ c o, c ≠ z → c ≠ TO → c ≠ i1 → c ≠ i2 → c ≠ i3 → hp.get? c = some o → y2.get? c = some o := fun c o qz qT q1 q2 q3 e => hy2 c o q2 (k1 c o qz qT q1 q2 q3 e)
    have r3_2 : St3 n y2 := D3.frame _ _ _ r3_1 fun c hc o e => hy2 c o (fun q => S.s2_3 (q ▸ hc)) e
    refine wpAny_pure ?_
    refine wpAny_bind (wpAny_bind (zend_strict (s := ⟨y2, g, d, tk0, os⟩) D3 r3_2 fun y3 hy3 => ?_))
    replace hy3 : Heap.ExtBut i3 y2 y3 := hy3
    have k3 : ∀ c o, c ≠ z → c ≠ TO → c ≠ i1 → c ≠ i2 → c ≠ i3 → hp.get? c = some o → y3.get? c = some o := fun c o qz qT q1 q2 q3 e => hy3 c o q3 (k2 c o qz qT q1 q2 q3 e)
    refine wpAny_pure ?_
    refine wpAny_pure ?_
    exact wpAny_bind (wpAny_rule (stop_it (s := ⟨y3, g, d, tk0, os⟩) hh fun h2 e kk he => hE h2 e (fun c o qz qT q1 q2 q3 x => kk c o (k3 c o qz qT q1 q2 q3 x)) he))
theorem py_item3 {z TI TO i1 i2 i3 : Addr} {fp1 fp2 fp3 : List Addr} {n1 n2 n3 i : Nat} {P1 P2 P3 : Nat → Value → Prop} {St1 St2 St3 : Nat → Heap → Prop} {a1 a2 a3 : Value} {Q : Option Value → Shared → Prop} (S : Sep3 z TI TO i1 i2 i3 fp1 fp2 fp3) (D1 : Draws prog w A.in1 i1 fp1 n1 P1 St1) (D2 : Draws prog w A.in1 i2 fp2 n2 P2 St2) (D3 : Draws prog w A.in1 i3 fp3 n3 P3 St3)
    (hz : ZipO s.heap z TI TO .none b) (hTI : TupO s.heap TI #[.ref i1, .ref i2, .ref i3]) (hTO : TupO s.heap TO #[a1, a2, a3]) (st1 : St1 i s.heap) (st2 : St2 i s.heap) (st3 : St3 i s.heap) (hi1 : i < n1) (hi2 : i < n2) (hi3 : i < n3)
    (hQ : ∀ x1 x2 x3 h' tk, P1 i x1 → P2 i x2 → P3 i x3 → ZipO h' z TI TO (rawInt s.heap.objs.size) b → TupO h' TO #[x1, x2, x3] → St1 (i + 1) h' → St2 (i + 1) h' → St3 (i + 1) h' → TupO h' s.heap.objs.size #[x1, x2, x3] →
      (∀ c o, c ≠ z → c ≠ TO → c ≠ i1 → c ≠ i2 → c ≠ i3 → s.heap.get? c = some o → h'.get? c = some o) → Q (some (.ref s.heap.objs.size)) { s with heap := h', toks := tk }) : wpAny (model prog w) A (pyNext (.ref z)) Q E s := by
  have hT : s.TypeIs (.ref z) "zip" := ⟨_, hz, rfl⟩
  unfold pyNext
  refine wpAny_bind (wpAny_attempt (wpAny_callSpecial?_slot (name := Str.ofString "__next__") hT F.slot_zip_next (wpAny_call_entry F.slot_zip_next hT F.entry_zip_next ?_ (F.args_zip_next_1 _))))
  exact next_item3 S D1 D2 D3 hz hTI hTO st1 st2 st3 hi1 hi2 hi3 fun x1 x2 x3 h2 tk p1 p2 p3 q1 q2 u1 u2 u3 q3 q4 => wpAny_pure (hQ x1 x2 x3 h2 tk p1 p2 p3 q1 q2 u1 u2 u3 q3 q4)
theorem py_end3 {z TI TO i1 i2 i3 : Addr} {fp1 fp2 fp3 : List Addr} {n : Nat} {P1 P2 P3 : Nat → Value → Prop} {St1 St2 St3 : Nat → Heap → Prop} {a1 a2 a3 : Value} {Q : Option Value → Shared → Prop} (hh : A.handled = none) (S : Sep3 z TI TO i1 i2 i3 fp1 fp2 fp3) (D1 : Draws prog w A.in1 i1 fp1 n P1 St1) (D2 : Draws prog w A.in1 i2 fp2 n P2 St2) (D3 : Draws prog w A.in1 i3 fp3 n P3 St3)
    (hz : ZipO s.heap z TI TO .none b) (hTI : TupO s.heap TI #[.ref i1, .ref i2, .ref i3]) (hTO : TupO s.heap TO #[a1, a2, a3]) (st1 : St1 n s.heap) (st2 : St2 n s.heap) (st3 : St3 n s.heap)
    (hQ : ∀ h', (∀ c o, c ≠ z → c ≠ TO → c ≠ i1 → c ≠ i2 → c ≠ i3 → s.heap.get? c = some o → h'.get? c = some o) → Q none { s with heap := h' }) : wpAny (model prog w) A (pyNext (.ref z)) Q E s := by
  have hT : s.TypeIs (.ref z) "zip" := ⟨_, hz, rfl⟩
  unfold pyNext
  refine wpAny_bind (wpAny_attempt (wpAny_callSpecial?_slot (name := Str.ofString "__next__") hT F.slot_zip_next (wpAny_call_entry F.slot_zip_next hT F.entry_zip_next ?_ (F.args_zip_next_1 _))))
  refine next_end3 (A := A.in1) hh S D1 D2 D3 hz hTI hTO st1 st2 st3 fun h2 e kk he => ?_
  obtain ⟨o, ho, hc⟩ := he
  exact wpAny_bind (wpAny_isInstance (T := "StopIteration") (b := true) ⟨o, ho, hc⟩ isSubtype_stop (wpAny_pure (hQ _ kk)))
theorem typeCall_strict3 (v1 v2 v3 x : Value) : checkTypeCall "zip" ⟨[v1, v2, v3], [(Str.ofString "strict", x)]⟩ = pure () := by kernel_rfl
theorem newCall_strict3 (v1 v2 v3 x : Value) : checkBuiltinCall "zip.__new__" ⟨[.type "zip", v1, v2, v3], [(Str.ofString "strict", x)]⟩ = pure () := by kernel_rfl
theorem initArgs_strict3 (obj v1 v2 v3 x : Value) : argsOk "object.__init__" ⟨[obj, v1, v2, v3], [(Str.ofString "strict", x)]⟩ := by unfold argsOk; kernel_rfl
abbrev sT3 (h : Heap) (o1 o2 o3 : Obj) : Heap := ((((h.push o1).push o2).push o3).push { cls := .type "tuple", data := .seq #[.ref h.objs.size, .ref (h.push o1).objs.size, .ref ((h.push o1).push o2).objs.size] })
abbrev sO3 (h : Heap) (o1 o2 o3 : Obj) : Heap := (sT3 h o1 o2 o3).push { cls := .type "tuple", data := .seq #[.none, .none, .none] }
abbrev sZ3 (h : Heap) (o1 o2 o3 : Obj) : Heap := (sO3 h o1 o2 o3).push { cls := .type "zip", data := .fields #[.none, .bool false, .bool true, .ref (((h.push o1).push o2).push o3).objs.size, .ref (sT3 h o1 o2 o3).objs.size] }
theorem meets_strict3 {v1 v2 v3 : Value} {o1 o2 o3 : Obj} {G1 G2 G3 : Heap → Prop} (B1 : Begins v1 o1 G1) (B2 : Begins v2 o2 G2) (B3 : Begins v3 o3 G3) :
    Meets (Builtin.«zip.__new__» ⟨[.type "zip", v1, v2, v3], [(Str.ofString "strict", .bool true)]⟩) (fun _ R s => (G1 s.heap ∧ G2 s.heap ∧ G3 s.heap) ∧ R (.ok (.ret (.ref (sO3 s.heap o1 o2 o3).objs.size))) { s with heap := (sZ3 s.heap o1 o2 o3) }) :=
  .of_wp fun prog w A R s h => by
    obtain ⟨hp, g, d, tk, os⟩ := s
    obtain ⟨⟨h1, h2, h3⟩, h⟩ := h
    have hsub := sub_zip
    have e1 : (Str.ofString "strict" != ("strict" : Str)) = false := by decide +kernel
    have w1 : ∀ {A' : Around} {E : Value → Shared → Prop} {Q : Value → Shared → Prop}, Q (.ref hp.objs.size) ⟨(hp.push o1), g, d, tk, os⟩ → wpAny (model prog w) A' (pyIter v1) Q E ⟨hp, g, d, tk, os⟩ := fun q => B1.iter prog w _ _ ⟨hp, g, d, tk, os⟩ _ (B1.keeps _ _ h1 fun c u e => e) q
    have w2 : ∀ {A' : Around} {E : Value → Shared → Prop} {Q : Value → Shared → Prop}, Q (.ref (hp.push o1).objs.size) ⟨((hp.push o1).push o2), g, d, tk, os⟩ → wpAny (model prog w) A' (pyIter v2) Q E ⟨(hp.push o1), g, d, tk, os⟩ := fun q => B2.iter prog w _ _ ⟨(hp.push o1), g, d, tk, os⟩ _ (B2.keeps _ _ h2 fun c u e => (Heap.get?_push_of_some _ e)) q
    have w3 : ∀ {A' : Around} {E : Value → Shared → Prop} {Q : Value → Shared → Prop}, Q (.ref ((hp.push o1).push o2).objs.size) ⟨(((hp.push o1).push o2).push o3), g, d, tk, os⟩ → wpAny (model prog w) A' (pyIter v3) Q E ⟨((hp.push o1).push o2), g, d, tk, os⟩ := fun q => B3.iter prog w _ _ ⟨((hp.push o1).push o2), g, d, tk, os⟩ _ (B3.keeps _ _ h3 fun c u e => (Heap.get?_push_of_some _ (Heap.get?_push_of_some _ e))) q
    wp_walk using w1, w2, w3
    exact ⟨_, rfl, h⟩
/-- zip(.., strict=True) of 3: its new cells -/
theorem begins_strict3 {v1 v2 v3 : Value} {o1 o2 o3 : Obj} {G1 G2 G3 : Heap → Prop} {Q : Value → Shared → Prop} (B1 : Begins v1 o1 G1) (B2 : Begins v2 o2 G2) (B3 : Begins v3 o3 G3) (h1 : G1 s.heap) (h2 : G2 s.heap) (h3 : G3 s.heap)
    (h : ∀ h', ZipO h' (s.heap.objs.size + 5) (s.heap.objs.size + 3) (s.heap.objs.size + 4) .none true → TupO h' (s.heap.objs.size + 3) #[.ref s.heap.objs.size, .ref (s.heap.objs.size + 1), .ref (s.heap.objs.size + 2)] → TupO h' (s.heap.objs.size + 4) #[.none, .none, .none] → h'.get? s.heap.objs.size = some o1 → h'.get? (s.heap.objs.size + 1) = some o2 → h'.get? (s.heap.objs.size + 2) = some o3 → (∀ c o, s.heap.get? c = some o → h'.get? c = some o) → Q (.ref (s.heap.objs.size + 5)) { s with heap := h' }) :
    wpAny (model prog w) A (call (.type "zip") [v1, v2, v3] [(Str.ofString "strict", .bool true)]) Q E s := by
  refine callType_newKw F.called_zip (by decide) (typeCall_strict3 _ _ _ _) (newCall_strict3 _ _ _ _) (fun obj => initArgs_strict3 obj _ _ _ _) F.entry_zip_new (meets_strict3 B1 B2 B3) ⟨⟨h1, h2, h3⟩, ?_⟩
  have z1 : (s.heap.push o1).objs.size = s.heap.objs.size + 1 := by rw [Heap.size_push]
  have z2 : ((s.heap.push o1).push o2).objs.size = s.heap.objs.size + 2 := by rw [Heap.size_push, z1]
  have z3 : (((s.heap.push o1).push o2).push o3).objs.size = s.heap.objs.size + 3 := by rw [Heap.size_push, z2]
  have z4 : (sT3 s.heap o1 o2 o3).objs.size = s.heap.objs.size + 4 := by rw [Heap.size_push, z3]
  have z5 : (sO3 s.heap o1 o2 o3).objs.size = s.heap.objs.size + 5 := by rw [Heap.size_push, z4]
  have z6 : (sZ3 s.heap o1 o2 o3).objs.size = s.heap.objs.size + 6 := by rw [Heap.size_push, z5]
  have q0 : (sZ3 s.heap o1 o2 o3).get? s.heap.objs.size = some o1 := (Heap.get?_push_of_some _ (Heap.get?_push_of_some _ (Heap.get?_push_of_some _ (Heap.get?_push_of_some _ (Heap.get?_push_of_some _ (Heap.get?_push_size _ B1.free))))))
  have q1 : (sZ3 s.heap o1 o2 o3).get? (s.heap.push o1).objs.size = some o2 := (Heap.get?_push_of_some _ (Heap.get?_push_of_some _ (Heap.get?_push_of_some _ (Heap.get?_push_of_some _ (Heap.get?_push_size _ B2.free)))))
  rw [z1] at q1
  have q2 : (sZ3 s.heap o1 o2 o3).get? ((s.heap.push o1).push o2).objs.size = some o3 := (Heap.get?_push_of_some _ (Heap.get?_push_of_some _ (Heap.get?_push_of_some _ (Heap.get?_push_size _ B3.free))))
  rw [z2] at q2
  have q3 : (sZ3 s.heap o1 o2 o3).get? (((s.heap.push o1).push o2).push o3).objs.size = some ({ cls := .type "tuple", data := .seq #[.ref s.heap.objs.size, .ref (s.heap.push o1).objs.size, .ref ((s.heap.push o1).push o2).objs.size] } : Obj) := (Heap.get?_push_of_some _ (Heap.get?_push_of_some _ (Heap.get?_push_size _ rfl)))
  rw [z3] at q3
  have q4 : (sZ3 s.heap o1 o2 o3).get? (sT3 s.heap o1 o2 o3).objs.size = some ({ cls := .type "tuple", data := .seq #[.none, .none, .none] } : Obj) := (Heap.get?_push_of_some _ (Heap.get?_push_size _ rfl))
  rw [z4] at q4
  have q5 : (sZ3 s.heap o1 o2 o3).get? (sO3 s.heap o1 o2 o3).objs.size = some ({ cls := .type "zip", data := .fields #[.none, .bool false, .bool true, .ref (((s.heap.push o1).push o2).push o3).objs.size, .ref (sT3 s.heap o1 o2 o3).objs.size] } : Obj) := (Heap.get?_push_size _ rfl)
  rw [z5] at q5
  rw [z2, z1] at q3
  rw [z4, z3] at q5
  show _ ∧ _
  rw [z5]
  exact ⟨⟨_, q5, rfl⟩, h _ q5 q3 q4 q0 q1 q2 fun c o e => (Heap.get?_push_of_some _ (Heap.get?_push_of_some _ (Heap.get?_push_of_some _ (Heap.get?_push_of_some _ (Heap.get?_push_of_some _ (Heap.get?_push_of_some _ e))))))⟩
end
end CZ

namespace CZ
open PySem PySem.Spec PyProof.Rows L2
/-- a list (false) or a tuple (true) that is read -/
def SqK (K : PySem.W.Frag) (H : Hp) (p : Bool × Addr) (xs : List V) : Prop := if p.1 = true then SqT K H p.2 xs else SqL K H p.2 xs
def SqIt (h : Heap) (it : Addr) (p : Bool × Addr) (i : Nat) : Prop := if p.1 = true then h.IsTupleIter it p.2 i else h.IsListIter it p.2 i
def SeqIs (h : Heap) (p : Bool × Addr) (its : List Value) : Prop := if p.1 = true then h.IsTuple p.2 its.toArray else h.IsList p.2 its.toArray
/-- the iterator's object as it begins -/
def itO (p : Bool × Addr) : Obj := if p.1 = true then { cls := .type "tuple_iterator", data := .fields #[.ref p.2, .int 0 0] } else { cls := .type "list_iterator", data := .fields #[.ref p.2, .int 0 0] }
theorem SqIt.at {h h' : Heap} {it : Addr} {p : Bool × Addr} {i : Nat} (x : SqIt h it p i) (k : ∀ o, h.get? it = some o → h'.get? it = some o) : SqIt h' it p i := by
  obtain ⟨b, a⟩ := p
  cases b
  · exact Heap.IsListIter.at (show h.IsListIter it a i from x) k
  · exact Heap.IsTupleIter.at (show h.IsTupleIter it a i from x) k
theorem SqIt.obj {h : Heap} {it : Addr} {p : Bool × Addr} {i : Nat} (x : SqIt h it p i) : ∃ o, h.get? it = some o ∧ ∀ v, o.data ≠ .cell v := by
  obtain ⟨b, a⟩ := p
  cases b
  · obtain ⟨o, e, _, d⟩ := (show h.IsListIter it a i from x)
    exact ⟨o, e, fun v q => by rw [d] at q; cases q⟩
  · obtain ⟨o, e, _, d⟩ := (show h.IsTupleIter it a i from x)
    exact ⟨o, e, fun v q => by rw [d] at q; cases q⟩
theorem SqIt.begin {h : Heap} {it : Addr} {p : Bool × Addr} (e : h.get? it = some (itO p)) : SqIt h it p 0 := by
  obtain ⟨b, a⟩ := p
  cases b
  · exact ⟨_, e, rfl, rfl⟩
  · exact ⟨_, e, rfl, rfl⟩
theorem begins_of (p : Bool × Addr) (its : List Value) : Begins (.ref p.2) (itO p) (fun h => SeqIs h p its) := by
  obtain ⟨b, a⟩ := p
  cases b
  · exact begins_list a its.toArray
  · exact begins_tuple a its.toArray
theorem draws_of {prog : Program} {w : World} {A : Around} (hh : A.handled = none) (it : Addr) (p : Bool × Addr) (ne : p.2 ≠ it) (its : List Value) :
    Draws prog w A it [it, p.2] its.toArray.size (fun i v => its.toArray[i]? = some v) (fun i h => SqIt h it p i ∧ SeqIs h p its) := by
  obtain ⟨b, a⟩ := p
  cases b
  · exact Draws.list hh it a ne its.toArray
  · exact Draws.tuple hh it a ne its.toArray
section
variable {X : Cx} {pins : List (Addr × Obj)} {σ : L2.St} {H : Hp} {s : Shared} {p : Bool × Addr} {xs ys : List V}
theorem sq_seq (I : Inv X pins σ H s) (h : SqK X.K H p xs) : ∃ its : List Value, Vals xs its ∧ SeqIs s.heap p its ∧ p.2 < s.heap.objs.size := by
  obtain ⟨b, a⟩ := p
  cases b
  · obtain ⟨its, rv, q, _⟩ := I.list (show SqL X.K H a xs from h)
    exact ⟨its, rv, q.isList, q.lt⟩
  · obtain ⟨its, rv, q, _⟩ := I.tuple (show SqT X.K H a xs from h)
    obtain ⟨o, ho, _⟩ := id q
    exact ⟨its, rv, q, Heap.lt_size ho⟩
theorem sq_inj (I : Inv X pins σ H s) (h : SqK X.K H p xs) (h2 : SqK X.K H p ys) : xs = ys := by
  obtain ⟨b, a⟩ := p
  cases b
  · exact I.list_inj (show SqL X.K H a xs from h) h2
  · exact I.tuple_inj (show SqT X.K H a xs from h) h2
end
/-- what a zip of lists and tuples of one length gives -/
def ItZ (K : PySem.W.Frag) (l : List (Bool × Addr)) : It :=
  ⟨fun i H => ∃ vs : List V, Paired (fun p v => ∃ xs, SqK K H p xs ∧ xs[i]? = some v) l vs,
    fun i H v H2 => ∃ (T : Addr) (vs : List V), v = .ref T ∧ H T = none ∧ H2 = upd H T (.tup vs) ∧ Paired (fun p v => ∀ xs, SqK K H p xs → xs[i]? = some v) l vs,
    fun i H => ∀ p ∈ l, ∃ xs, SqK K H p xs ∧ xs.length = i⟩
def YRow (xss : List (List V)) : Nat → Hp → V → Hp → Prop := fun i H v H2 => ∃ (T : Addr) (vs : List V), v = .ref T ∧ H T = none ∧ H2 = upd H T (.tup vs) ∧ Paired (fun (xs : List V) v => xs[i]? = some v) xss vs
theorem pair_go {K : PySem.W.Frag} {H : Hp} {i : Nat} : ∀ {l : List (Bool × Addr)} {xss : List (List V)}, Paired (fun p xs => SqK K H p xs) l xss → (∀ xs ∈ xss, i < xs.length) → ∃ vs, Paired (fun p v => ∃ xs, SqK K H p xs ∧ xs[i]? = some v) l vs
  | _, _, .nil, _ => ⟨[], .nil⟩
  | _, _, .cons (b := xs) r t, h => by
    obtain ⟨vs, q⟩ := pair_go t fun ys hy => h ys (List.mem_cons_of_mem _ hy)
    have hi := h xs List.mem_cons_self
    exact ⟨xs[i] :: vs, .cons ⟨xs, r, List.getElem?_eq_getElem hi⟩ q⟩
theorem pair_row {K : PySem.W.Frag} {H : Hp} {i : Nat} : ∀ {l : List (Bool × Addr)} {xss : List (List V)} {vs : List V}, Paired (fun p xs => SqK K H p xs) l xss → Paired (fun p v => ∀ xs, SqK K H p xs → xs[i]? = some v) l vs → Paired (fun (xs : List V) v => xs[i]? = some v) xss vs
  | _, _, _, .nil, .nil => .nil
  | _, _, _, .cons r t, .cons q u => .cons (q _ r) (pair_row t u)
theorem pair_stop {K : PySem.W.Frag} {H : Hp} {n : Nat} : ∀ {l : List (Bool × Addr)} {xss : List (List V)}, Paired (fun p xs => SqK K H p xs) l xss → (∀ xs ∈ xss, xs.length = n) → ∀ p ∈ l, ∃ xs, SqK K H p xs ∧ xs.length = n
  | _, _, .nil, _, _, hp => nomatch hp
  | _, _, .cons r t, h, p, hp => by
    rcases List.mem_cons.mp hp with e | hp
    · rw [e]
      exact ⟨_, r, h _ List.mem_cons_self⟩
    · exact pair_stop t (fun ys hy => h ys (List.mem_cons_of_mem _ hy)) p hp
theorem walk_rows {K : PySem.W.Frag} {l : List (Bool × Addr)} {xss : List (List V)} {n : Nat} (hn : ∀ xs ∈ xss, xs.length = n) : Walk (ItZ K l) n (fun H => Paired (fun p xs => SqK K H p xs) l xss) (YRow xss) :=
  ⟨fun i H hi q => pair_go q fun xs hx => by rw [hn xs hx]; exact hi, fun H q => pair_stop q hn, fun i H x H2 _ q y => by
    obtain ⟨T, vs, h1, h2, h3, h4⟩ := y
    exact ⟨T, vs, h1, h2, h3, pair_row q h4⟩⟩
/-- the reading of zip(..): which are tuples is told by the flags -/
def iZ (K : PySem.W.Frag) (fl : List Bool) (ta : TA) : TI := fun σ H R => ta σ H fun vs H1 => ∃ l : List Addr, vs = l.map V.ref ∧ l.length = fl.length ∧ (∀ p ∈ fl.zip l, ∃ xs, SqK K H1 p xs) ∧ R (ItZ K (fl.zip l)) H1
theorem nin_new {M a : Nat} (j k : Nat) (h : a < M) (hjk : j ≠ k) : M + j ∉ [M + k, a] := by
  simp only [List.mem_cons, List.mem_nil_iff, or_false, not_or]
  omega
theorem looks_ty {M : Model} {h : Heap} (T : String) (_ : True) : ∃ k, (k = Keeper.frame ∨ k = Keeper.machine ∨ k = Keeper.boundFrame) ∧ PySem.W.Looks M h (keeperOf (.type T)) k := ⟨_, .inr (.inl rfl), PySem.W.Looks.of_pure rfl⟩
end CZ

namespace CZ
open PySem PySem.Spec PyProof.Rows L2
theorem turn_z2 {P : Program} {w : World} {K : PySem.W.Frag} {elts : List Expr} {kk : Nat} {tpos : Pos} {z TI TO i1 i2 : Addr} {p1 p2 : Bool × Addr} {b : Bool} (S : Sep2 z TI TO i1 i2 [i1, p1.2] [i2, p2.2]) (ne1 : p1.2 ≠ i1) (ne2 : p2.2 ≠ i2) :
    Turn P w K (.Tuple elts kk tpos) (ItZ K [p1, p2]) [z, TI, TO, i1, i2] z (fun i h => ZipO h z TI TO .none b ∧ TupO h TI #[.ref i1, .ref i2] ∧ (∃ a1 a2, TupO h TO #[a1, a2]) ∧ SqIt h i1 p1 i ∧ SqIt h i2 p2 i) where
  mem := by simp
  obj := fun i h st c hc => by
    obtain ⟨hz, hTI, ⟨a1, a2, hTO⟩, h1, h2⟩ := st
    have e : c = z ∨ c = TI ∨ c = TO ∨ c = i1 ∨ c = i2 := by simpa using hc
    rcases e with q | q | q | q | q
    · rw [q]; exact ⟨_, hz, fun v q => nomatch q⟩
    · rw [q]; exact ⟨_, hTI, fun v q => nomatch q⟩
    · rw [q]; exact ⟨_, hTO, fun v q => nomatch q⟩
    · rw [q]; exact h1.obj
    · rw [q]; exact h2.obj
  keep := fun i h h2 st k => by
    obtain ⟨hz, hTI, ⟨a1, a2, hTO⟩, h1, h2⟩ := st
    exact ⟨k z (by simp) _ hz, k TI (by simp) _ hTI, ⟨a1, a2, k TO (by simp) _ hTO⟩, h1.at fun o q => k i1 (by simp) o q, h2.at fun o q => k i2 (by simp) o q⟩
  item := by
    intro X hP hw hK hc i pins s σ H E I hf st hg
    subst hP hw hK
    obtain ⟨hz, hTI, ⟨a1, a2, hTO⟩, h1, h2⟩ := st
    obtain ⟨vs, hv⟩ := hg
    cases hv with
    | cons r1 hv1 =>
      rename_i v1 ws1
      obtain ⟨xs1, hq1, hx1⟩ := r1
      obtain ⟨its1, rv1, q1, _⟩ := sq_seq I hq1
      obtain ⟨u1, hu1, ru1⟩ := rv1.get hx1
      have g1 : its1.toArray[i]? = some u1 := by simpa using hu1
      have l1 : i < its1.toArray.size := by have := (List.getElem?_eq_some_iff.mp hu1).1; simpa using this
      cases hv1 with
      | cons r2 hv2 =>
        rename_i v2 ws2
        obtain ⟨xs2, hq2, hx2⟩ := r2
        obtain ⟨its2, rv2, q2, _⟩ := sq_seq I hq2
        obtain ⟨u2, hu2, ru2⟩ := rv2.get hx2
        have g2 : its2.toArray[i]? = some u2 := by simpa using hu2
        have l2 : i < its2.toArray.size := by have := (List.getElem?_eq_some_iff.mp hu2).1; simpa using this
        cases hv2
        have hzl : z < s.heap.objs.size := Heap.lt_size hz
        refine py_item2 S (draws_of (A := X.A.in1) (I.ok.hd hc) i1 p1 ne1 its1) (draws_of (A := X.A.in1) (I.ok.hd hc) i2 p2 ne2 its2) hz hTI hTO ⟨h1, q1⟩ ⟨h2, q2⟩ l1 l2 fun x1 x2 hA tk y1 y2 z2 TO2 n1 n2 hT hk => ?_
        obtain rfl : u1 = x1 := Option.some.inj (g1.symm.trans y1)
        obtain rfl : u2 = x2 := Option.some.inj (g2.symm.trans y2)
        refine ⟨_, rfl, go_zip (s := { s with heap := hA, toks := tk }) z2 fun hB z3 sb => ?_⟩
        replace sb : Heap.SameBut z hA hB := sb
        have hT2 : hB.get? s.heap.objs.size = some { cls := .type "tuple", data := .seq #[u1, u2] } := (sb.2 _ (Nat.ne_of_gt hzl)).trans hT
        have new : ObjOk X.prog X.w (upd H s.heap.objs.size (.tup [v1, v2])) hB s.heap.objs.size (.tup [v1, v2]) := ⟨by show 2 ≤ sizeLine; decide, [u1, u2], (.cons ru1 (.cons ru2 .nil)), ⟨_, hT2, rfl, _, rfl⟩⟩
        have I1 : Inv X pins σ (upd H s.heap.objs.size (.tup [v1, v2])) { s with heap := hB, toks := tk } := I.turnedNew (t' := tk) (ch := [z, TI, TO, i1, i2]) (fun c o hb q => (sb.2 c (fun q => hb (by simp [q]))).trans (hk c o (fun q => hb (by simp [q])) (fun q => hb (by simp [q])) (fun q => hb (by simp [q])) (fun q => hb (by simp [q])) q)) hf (Nat.le_refl _) new
        refine ⟨.ref s.heap.objs.size, _, I1, rfl, ⟨_, _, rfl, I.hok.fresh (Nat.le_refl _), rfl, (.cons (fun l hl => by rw [sq_inj I hl hq1]; exact hx1) (.cons (fun l hl => by rw [sq_inj I hl hq2]; exact hx2) .nil))⟩, ⟨z3, (sb.2 _ S.zTI.symm).trans (hk _ _ S.zTI.symm S.TOTI.symm S.I1 S.I2 hTI), ⟨u1, u2, (sb.2 _ S.zTO.symm).trans TO2⟩, (n1.1.at fun o q => (sb.2 _ (fun q => S.z1 (by rw [← q]; exact S.m1))).trans q), (n2.1.at fun o q => (sb.2 _ (fun q => S.z2 (by rw [← q]; exact S.m2))).trans q)⟩, fun c hcm => ?_⟩
        have hlt : c < s.heap.objs.size := by
          have e : c = z ∨ c = TI ∨ c = TO ∨ c = i1 ∨ c = i2 := by simpa using hcm
          rcases e with q | q | q | q | q
          · rw [q]; exact hzl
          · rw [q]; exact Heap.lt_size hTI
          · rw [q]; exact Heap.lt_size hTO
          · rw [q]; obtain ⟨_, e1, _⟩ := h1.obj; exact Heap.lt_size e1
          · rw [q]; obtain ⟨_, e1, _⟩ := h2.obj; exact Heap.lt_size e1
        rw [upd_ne (Nat.ne_of_lt hlt)]
        exact (hf c hcm).1
  done := by
    intro X hP hw hK hc i pins s σ H E I hf st hg
    subst hP hw hK
    obtain ⟨hz, hTI, ⟨a1, a2, hTO⟩, h1, h2⟩ := st
    obtain ⟨xs1, hq1, hx1⟩ := hg p1 (by simp)
    obtain ⟨its1, rv1, q1, _⟩ := sq_seq I hq1
    have l1 : its1.toArray.size = i := by have := rv1.length; simp; omega
    have D1 := draws_of (prog := X.prog) (w := X.w) (A := X.A.in1) (I.ok.hd hc) i1 p1 ne1 its1
    rw [l1] at D1
    obtain ⟨xs2, hq2, hx2⟩ := hg p2 (by simp)
    obtain ⟨its2, rv2, q2, _⟩ := sq_seq I hq2
    have l2 : its2.toArray.size = i := by have := rv2.length; simp; omega
    have D2 := draws_of (prog := X.prog) (w := X.w) (A := X.A.in1) (I.ok.hd hc) i2 p2 ne2 its2
    rw [l2] at D2
    exact py_end2 (I.ok.hd hc) S D1 D2 hz hTI hTO ⟨h1, q1⟩ ⟨h2, q2⟩ fun h2 hk => ⟨rfl, I.turnedL (t' := s.toks) (ch := [z, TI, TO, i1, i2]) (fun c o hb q => hk c o (fun q => hb (by simp [q])) (fun q => hb (by simp [q])) (fun q => hb (by simp [q])) (fun q => hb (by simp [q])) q) hf⟩
  self := fun A i s Q E st h => iter_zip st.1 h
theorem sep_new2 {M : Nat} {p1 p2 : Bool × Addr} (h1 : p1.2 < M) (h2 : p2.2 < M) : Sep2 (M + 4) (M + 2) (M + 3) M (M + 1) [M, p1.2] [M + 1, p2.2] where
  zTO := by show (M + 4 : Nat) ≠ M + 3; omega
  zTI := by show (M + 4 : Nat) ≠ M + 2; omega
  TOTI := by show (M + 3 : Nat) ≠ M + 2; omega
  m1 := by simp
  z1 := nin_new (a := p1.2) 4 0 h1 (by decide)
  T1 := nin_new (a := p1.2) 3 0 h1 (by decide)
  I1 := by show (M + 2 : Nat) ≠ M; omega
  s2_1 := nin_new (a := p1.2) 1 0 h1 (by decide)
  m2 := by simp
  z2 := nin_new (a := p2.2) 4 1 h2 (by decide)
  T2 := nin_new (a := p2.2) 3 1 h2 (by decide)
  I2 := by show (M + 2 : Nat) ≠ M + 1; omega
  s1_2 := nin_new (a := p2.2) 0 1 h2 (by decide)
theorem pi_z2s {X : Cx} {e1 e2 : Expr} {ta : TA} {p pos tpos : Pos} {elts : List Expr} {kk : Nat} {jj : Nat} {kp kp2 : Pos} {fl : List Bool} (hfl : fl.length = 2) (hg : Gl X "zip") (hm : X.mg "zip" = none) (ha : PA X [e1, e2] ta)
    (hs : starEach [e1, e2] X.env = (false, eval e1 X.env) :: starEach [e2] X.env := by rfl) (hpl : (backTo pos (starEach [e2] X.env)).any (·.1) = false := by rfl) :
    PI X (.Tuple elts kk tpos) (.Call (.Name "zip" p) [e1, e2] [⟨some "strict", .Constant (.bool true) jj kp, kp2⟩] pos) (iZ X.K fl ta) := by
  refine ⟨fun pins s σ H R I h => ?_⟩
  refine wpAny_Call_Name_kw (ld_blt I hg hm PyProof.Rows.boot_zip ?_)
  refine PySem.W.callWith_of (P := fun _ => True) ?_ (fun h _ => looks_ty "zip" True.intro) ?_
  · show ((backTo pos (starEach _ X.env)).any (·.1) || false) = false
    rw [hs, Bool.or_false]
    exact hpl
  have he : backTo pos (starEach [e1, e2] X.env) = (false, eval e1 X.env) :: backTo pos (starEach [e2] X.env) := by rw [hs]; rfl
  rw [he]
  refine PyProof.Rows.evalArgs_kwB rfl ?_
  rw [← he]
  refine thn (ha.run pos pins s σ H _ I h) fun us s0 ⟨vs, H1, I0, r1, q1⟩ => ?_
  refine PyProof.Rows.kws_cons (Constant_bool (PyProof.Rows.kws_nil ⟨True.intro, ?_⟩))
  have I1 := I0
  obtain ⟨l, ev, el, hl, q1⟩ := q1
  subst ev
  obtain ⟨b1, b2, rfl⟩ : ∃ b1 b2 : Bool, fl = [b1, b2] := match fl, hfl with | [_, _], _ => ⟨_, _, rfl⟩
  obtain ⟨c1, c2, rfl⟩ : ∃ c1 c2 : Addr, l = [c1, c2] := match l, el with | [_, _], _ => ⟨_, _, rfl⟩
  cases r1 with
  | cons r_1 rr1 =>
    cases r_1
    cases rr1 with
    | cons r_2 rr2 =>
      cases r_2
      cases rr2
      obtain ⟨xs1, hq1⟩ := hl (b1, c1) (by simp)
      obtain ⟨its1, rv1, g1, lt1⟩ := sq_seq I1 hq1
      obtain ⟨xs2, hq2⟩ := hl (b2, c2) (by simp)
      obtain ⟨its2, rv2, g2, lt2⟩ := sq_seq I1 hq2
      have frs : ∀ c, c ∈ [s0.heap.objs.size + 4, s0.heap.objs.size + 2, s0.heap.objs.size + 3, s0.heap.objs.size, s0.heap.objs.size + 1] → FpOk X pins H1 c := fun c hcm => by
        have e : c = s0.heap.objs.size + 4 ∨ c = s0.heap.objs.size + 2 ∨ c = s0.heap.objs.size + 3 ∨ c = s0.heap.objs.size ∨ c = s0.heap.objs.size + 1 := by simpa using hcm
        have hle : s0.heap.objs.size ≤ c := by
          rcases e with q | q | q | q | q
          · rw [q]; exact Nat.le_add_right _ _
          · rw [q]; exact Nat.le_add_right _ _
          · rw [q]; exact Nat.le_add_right _ _
          · rw [q]; exact Nat.le_refl _
          · rw [q]; exact Nat.le_add_right _ _
        exact I1.fpOk hle (I1.hok.fresh hle)
      refine begins_strict2 (begins_of (b1, c1) its1) (begins_of (b2, c2) its2) g1 g2 fun hA hz hTI hTO y1 y2 kk => iter_zip hz ?_
      have I2 : Inv X pins σ H1 { s0 with heap := hA } := I1.kept (t' := s0.toks) kk
      exact ⟨_, [s0.heap.objs.size + 4, s0.heap.objs.size + 2, s0.heap.objs.size + 3, s0.heap.objs.size, s0.heap.objs.size + 1], _, _, H1, rfl, I2, turn_z2 (sep_new2 lt1 lt2) (Nat.ne_of_lt lt1) (Nat.ne_of_lt (Nat.lt_of_lt_of_le lt2 (Nat.le_add_right _ 1))), ⟨hz, hTI, ⟨_, _, hTO⟩, SqIt.begin y1, SqIt.begin y2⟩, frs, q1⟩
theorem pi_z2 {X : Cx} {e1 e2 : Expr} {ta : TA} {p pos tpos : Pos} {elts : List Expr} {kk : Nat} {fl : List Bool} (hfl : fl.length = 2) (hg : Gl X "zip") (hm : X.mg "zip" = none) (ha : PA X [e1, e2] ta)
    (hs : starEach [e1, e2] X.env = (false, eval e1 X.env) :: starEach [e2] X.env := by rfl) (hpl : (backTo pos (starEach [e2] X.env)).any (·.1) = false := by rfl) :
    PI X (.Tuple elts kk tpos) (.Call (.Name "zip" p) [e1, e2] [] pos) (iZ X.K fl ta) := by
  refine ⟨fun pins s σ H R I h => ?_⟩
  refine Call_ (ld_blt I hg hm PyProof.Rows.boot_zip (PyProof.Rows.callWith_type1 (thn (ha.run pos pins s σ H _ I h) fun us s0 ⟨vs, H1, I1, r1, q1⟩ => ?_) hs hpl))
  obtain ⟨l, ev, el, hl, q1⟩ := q1
  subst ev
  obtain ⟨b1, b2, rfl⟩ : ∃ b1 b2 : Bool, fl = [b1, b2] := match fl, hfl with | [_, _], _ => ⟨_, _, rfl⟩
  obtain ⟨c1, c2, rfl⟩ : ∃ c1 c2 : Addr, l = [c1, c2] := match l, el with | [_, _], _ => ⟨_, _, rfl⟩
  cases r1 with
  | cons r_1 rr1 =>
    cases r_1
    cases rr1 with
    | cons r_2 rr2 =>
      cases r_2
      cases rr2
      obtain ⟨xs1, hq1⟩ := hl (b1, c1) (by simp)
      obtain ⟨its1, rv1, g1, lt1⟩ := sq_seq I1 hq1
      obtain ⟨xs2, hq2⟩ := hl (b2, c2) (by simp)
      obtain ⟨its2, rv2, g2, lt2⟩ := sq_seq I1 hq2
      have frs : ∀ c, c ∈ [s0.heap.objs.size + 4, s0.heap.objs.size + 2, s0.heap.objs.size + 3, s0.heap.objs.size, s0.heap.objs.size + 1] → FpOk X pins H1 c := fun c hcm => by
        have e : c = s0.heap.objs.size + 4 ∨ c = s0.heap.objs.size + 2 ∨ c = s0.heap.objs.size + 3 ∨ c = s0.heap.objs.size ∨ c = s0.heap.objs.size + 1 := by simpa using hcm
        have hle : s0.heap.objs.size ≤ c := by
          rcases e with q | q | q | q | q
          · rw [q]; exact Nat.le_add_right _ _
          · rw [q]; exact Nat.le_add_right _ _
          · rw [q]; exact Nat.le_add_right _ _
          · rw [q]; exact Nat.le_refl _
          · rw [q]; exact Nat.le_add_right _ _
        exact I1.fpOk hle (I1.hok.fresh hle)
      refine zip_begins2 (begins_of (b1, c1) its1) (begins_of (b2, c2) its2) g1 g2 fun hA hz hTI hTO y1 y2 _ kk => iter_zip (b := false) hz ?_
      have I2 : Inv X pins σ H1 { s0 with heap := hA } := I1.kept (t' := s0.toks) kk
      exact ⟨_, [s0.heap.objs.size + 4, s0.heap.objs.size + 2, s0.heap.objs.size + 3, s0.heap.objs.size, s0.heap.objs.size + 1], _, _, H1, rfl, I2, turn_z2 (sep_new2 lt1 lt2) (Nat.ne_of_lt lt1) (Nat.ne_of_lt (Nat.lt_of_lt_of_le lt2 (Nat.le_add_right _ 1))), ⟨hz, hTI, ⟨_, _, hTO⟩, SqIt.begin y1, SqIt.begin y2⟩, frs, q1⟩
theorem turn_z3 {P : Program} {w : World} {K : PySem.W.Frag} {elts : List Expr} {kk : Nat} {tpos : Pos} {z TI TO i1 i2 i3 : Addr} {p1 p2 p3 : Bool × Addr} {b : Bool} (S : Sep3 z TI TO i1 i2 i3 [i1, p1.2] [i2, p2.2] [i3, p3.2]) (ne1 : p1.2 ≠ i1) (ne2 : p2.2 ≠ i2) (ne3 : p3.2 ≠ i3) :
    Turn P w K (.Tuple elts kk tpos) (ItZ K [p1, p2, p3]) [z, TI, TO, i1, i2, i3] z (fun i h => ZipO h z TI TO .none b ∧ TupO h TI #[.ref i1, .ref i2, .ref i3] ∧ (∃ a1 a2 a3, TupO h TO #[a1, a2, a3]) ∧ SqIt h i1 p1 i ∧ SqIt h i2 p2 i ∧ SqIt h i3 p3 i) where
  mem := by simp
  obj := fun i h st c hc => by
    obtain ⟨hz, hTI, ⟨a1, a2, a3, hTO⟩, h1, h2, h3⟩ := st
    have e : c = z ∨ c = TI ∨ c = TO ∨ c = i1 ∨ c = i2 ∨ c = i3 := by simpa using hc
    rcases e with q | q | q | q | q | q
    · rw [q]; exact ⟨_, hz, fun v q => nomatch q⟩
    · rw [q]; exact ⟨_, hTI, fun v q => nomatch q⟩
    · rw [q]; exact ⟨_, hTO, fun v q => nomatch q⟩
    · rw [q]; exact h1.obj
    · rw [q]; exact h2.obj
    · rw [q]; exact h3.obj
  keep := fun i h h2 st k => by
    obtain ⟨hz, hTI, ⟨a1, a2, a3, hTO⟩, h1, h2, h3⟩ := st
    exact ⟨k z (by simp) _ hz, k TI (by simp) _ hTI, ⟨a1, a2, a3, k TO (by simp) _ hTO⟩, h1.at fun o q => k i1 (by simp) o q, h2.at fun o q => k i2 (by simp) o q, h3.at fun o q => k i3 (by simp) o q⟩
  item := by
    intro X hP hw hK hc i pins s σ H E I hf st hg
    subst hP hw hK
    obtain ⟨hz, hTI, ⟨a1, a2, a3, hTO⟩, h1, h2, h3⟩ := st
    obtain ⟨vs, hv⟩ := hg
    cases hv with
    | cons r1 hv1 =>
      rename_i v1 ws1
      obtain ⟨xs1, hq1, hx1⟩ := r1
      obtain ⟨its1, rv1, q1, _⟩ := sq_seq I hq1
      obtain ⟨u1, hu1, ru1⟩ := rv1.get hx1
      have g1 : its1.toArray[i]? = some u1 := by simpa using hu1
      have l1 : i < its1.toArray.size := by have := (List.getElem?_eq_some_iff.mp hu1).1; simpa using this
      cases hv1 with
      | cons r2 hv2 =>
        rename_i v2 ws2
        obtain ⟨xs2, hq2, hx2⟩ := r2
        obtain ⟨its2, rv2, q2, _⟩ := sq_seq I hq2
        obtain ⟨u2, hu2, ru2⟩ := rv2.get hx2
        have g2 : its2.toArray[i]? = some u2 := by simpa using hu2
        have l2 : i < its2.toArray.size := by have := (List.getElem?_eq_some_iff.mp hu2).1; simpa using this
        cases hv2 with
        | cons r3 hv3 =>
          rename_i v3 ws3
          obtain ⟨xs3, hq3, hx3⟩ := r3
          obtain ⟨its3, rv3, q3, _⟩ := sq_seq I hq3
          obtain ⟨u3, hu3, ru3⟩ := rv3.get hx3
          have g3 : its3.toArray[i]? = some u3 := by simpa using hu3
          have l3 : i < its3.toArray.size := by have := (List.getElem?_eq_some_iff.mp hu3).1; simpa using this
          cases hv3
          have hzl : z < s.heap.objs.size := Heap.lt_size hz
          refine py_item3 S (draws_of (A := X.A.in1) (I.ok.hd hc) i1 p1 ne1 its1) (draws_of (A := X.A.in1) (I.ok.hd hc) i2 p2 ne2 its2) (draws_of (A := X.A.in1) (I.ok.hd hc) i3 p3 ne3 its3) hz hTI hTO ⟨h1, q1⟩ ⟨h2, q2⟩ ⟨h3, q3⟩ l1 l2 l3 fun x1 x2 x3 hA tk y1 y2 y3 z2 TO2 n1 n2 n3 hT hk => ?_
          obtain rfl : u1 = x1 := Option.some.inj (g1.symm.trans y1)
          obtain rfl : u2 = x2 := Option.some.inj (g2.symm.trans y2)
          obtain rfl : u3 = x3 := Option.some.inj (g3.symm.trans y3)
          refine ⟨_, rfl, go_zip (s := { s with heap := hA, toks := tk }) z2 fun hB z3 sb => ?_⟩
          replace sb : Heap.SameBut z hA hB := sb
          have hT2 : hB.get? s.heap.objs.size = some { cls := .type "tuple", data := .seq #[u1, u2, u3] } := (sb.2 _ (Nat.ne_of_gt hzl)).trans hT
          have new : ObjOk X.prog X.w (upd H s.heap.objs.size (.tup [v1, v2, v3])) hB s.heap.objs.size (.tup [v1, v2, v3]) := ⟨by show 3 ≤ sizeLine; decide, [u1, u2, u3], (.cons ru1 (.cons ru2 (.cons ru3 .nil))), ⟨_, hT2, rfl, _, rfl⟩⟩
          have I1 : Inv X pins σ (upd H s.heap.objs.size (.tup [v1, v2, v3])) { s with heap := hB, toks := tk } := I.turnedNew (t' := tk) (ch := [z, TI, TO, i1, i2, i3]) (fun c o hb q => (sb.2 c (fun q => hb (by simp [q]))).trans (hk c o (fun q => hb (by simp [q])) (fun q => hb (by simp [q])) (fun q => hb (by simp [q])) (fun q => hb (by simp [q])) (fun q => hb (by simp [q])) q)) hf (Nat.le_refl _) new
          refine ⟨.ref s.heap.objs.size, _, I1, rfl, ⟨_, _, rfl, I.hok.fresh (Nat.le_refl _), rfl, (.cons (fun l hl => by rw [sq_inj I hl hq1]; exact hx1) (.cons (fun l hl => by rw [sq_inj I hl hq2]; exact hx2) (.cons (fun l hl => by rw [sq_inj I hl hq3]; exact hx3) .nil)))⟩, ⟨z3, (sb.2 _ S.zTI.symm).trans (hk _ _ S.zTI.symm S.TOTI.symm S.I1 S.I2 S.I3 hTI), ⟨u1, u2, u3, (sb.2 _ S.zTO.symm).trans TO2⟩, (n1.1.at fun o q => (sb.2 _ (fun q => S.z1 (by rw [← q]; exact S.m1))).trans q), (n2.1.at fun o q => (sb.2 _ (fun q => S.z2 (by rw [← q]; exact S.m2))).trans q), (n3.1.at fun o q => (sb.2 _ (fun q => S.z3 (by rw [← q]; exact S.m3))).trans q)⟩, fun c hcm => ?_⟩
          have hlt : c < s.heap.objs.size := by
            have e : c = z ∨ c = TI ∨ c = TO ∨ c = i1 ∨ c = i2 ∨ c = i3 := by simpa using hcm
            rcases e with q | q | q | q | q | q
            · rw [q]; exact hzl
            · rw [q]; exact Heap.lt_size hTI
            · rw [q]; exact Heap.lt_size hTO
            · rw [q]; obtain ⟨_, e1, _⟩ := h1.obj; exact Heap.lt_size e1
            · rw [q]; obtain ⟨_, e1, _⟩ := h2.obj; exact Heap.lt_size e1
            · rw [q]; obtain ⟨_, e1, _⟩ := h3.obj; exact Heap.lt_size e1
          rw [upd_ne (Nat.ne_of_lt hlt)]
          exact (hf c hcm).1
  done := by
    intro X hP hw hK hc i pins s σ H E I hf st hg
    subst hP hw hK
    obtain ⟨hz, hTI, ⟨a1, a2, a3, hTO⟩, h1, h2, h3⟩ := st
    obtain ⟨xs1, hq1, hx1⟩ := hg p1 (by simp)
    obtain ⟨its1, rv1, q1, _⟩ := sq_seq I hq1
    have l1 : its1.toArray.size = i := by have := rv1.length; simp; omega
    have D1 := draws_of (prog := X.prog) (w := X.w) (A := X.A.in1) (I.ok.hd hc) i1 p1 ne1 its1
    rw [l1] at D1
    obtain ⟨xs2, hq2, hx2⟩ := hg p2 (by simp)
    obtain ⟨its2, rv2, q2, _⟩ := sq_seq I hq2
    have l2 : its2.toArray.size = i := by have := rv2.length; simp; omega
    have D2 := draws_of (prog := X.prog) (w := X.w) (A := X.A.in1) (I.ok.hd hc) i2 p2 ne2 its2
    rw [l2] at D2
    obtain ⟨xs3, hq3, hx3⟩ := hg p3 (by simp)
    obtain ⟨its3, rv3, q3, _⟩ := sq_seq I hq3
    have l3 : its3.toArray.size = i := by have := rv3.length; simp; omega
    have D3 := draws_of (prog := X.prog) (w := X.w) (A := X.A.in1) (I.ok.hd hc) i3 p3 ne3 its3
    rw [l3] at D3
    exact py_end3 (I.ok.hd hc) S D1 D2 D3 hz hTI hTO ⟨h1, q1⟩ ⟨h2, q2⟩ ⟨h3, q3⟩ fun h2 hk => ⟨rfl, I.turnedL (t' := s.toks) (ch := [z, TI, TO, i1, i2, i3]) (fun c o hb q => hk c o (fun q => hb (by simp [q])) (fun q => hb (by simp [q])) (fun q => hb (by simp [q])) (fun q => hb (by simp [q])) (fun q => hb (by simp [q])) q) hf⟩
  self := fun A i s Q E st h => iter_zip st.1 h
theorem sep_new3 {M : Nat} {p1 p2 p3 : Bool × Addr} (h1 : p1.2 < M) (h2 : p2.2 < M) (h3 : p3.2 < M) : Sep3 (M + 5) (M + 3) (M + 4) M (M + 1) (M + 2) [M, p1.2] [M + 1, p2.2] [M + 2, p3.2] where
  zTO := by show (M + 5 : Nat) ≠ M + 4; omega
  zTI := by show (M + 5 : Nat) ≠ M + 3; omega
  TOTI := by show (M + 4 : Nat) ≠ M + 3; omega
  m1 := by simp
  z1 := nin_new (a := p1.2) 5 0 h1 (by decide)
  T1 := nin_new (a := p1.2) 4 0 h1 (by decide)
  I1 := by show (M + 3 : Nat) ≠ M; omega
  s2_1 := nin_new (a := p1.2) 1 0 h1 (by decide)
  s3_1 := nin_new (a := p1.2) 2 0 h1 (by decide)
  m2 := by simp
  z2 := nin_new (a := p2.2) 5 1 h2 (by decide)
  T2 := nin_new (a := p2.2) 4 1 h2 (by decide)
  I2 := by show (M + 3 : Nat) ≠ M + 1; omega
  s1_2 := nin_new (a := p2.2) 0 1 h2 (by decide)
  s3_2 := nin_new (a := p2.2) 2 1 h2 (by decide)
  m3 := by simp
  z3 := nin_new (a := p3.2) 5 2 h3 (by decide)
  T3 := nin_new (a := p3.2) 4 2 h3 (by decide)
  I3 := by show (M + 3 : Nat) ≠ M + 2; omega
  s1_3 := nin_new (a := p3.2) 0 2 h3 (by decide)
  s2_3 := nin_new (a := p3.2) 1 2 h3 (by decide)
theorem pi_z3s {X : Cx} {e1 e2 e3 : Expr} {ta : TA} {p pos tpos : Pos} {elts : List Expr} {kk : Nat} {jj : Nat} {kp kp2 : Pos} {fl : List Bool} (hfl : fl.length = 3) (hg : Gl X "zip") (hm : X.mg "zip" = none) (ha : PA X [e1, e2, e3] ta)
    (hs : starEach [e1, e2, e3] X.env = (false, eval e1 X.env) :: starEach [e2, e3] X.env := by rfl) (hpl : (backTo pos (starEach [e2, e3] X.env)).any (·.1) = false := by rfl) :
    PI X (.Tuple elts kk tpos) (.Call (.Name "zip" p) [e1, e2, e3] [⟨some "strict", .Constant (.bool true) jj kp, kp2⟩] pos) (iZ X.K fl ta) := by
  refine ⟨fun pins s σ H R I h => ?_⟩
  refine wpAny_Call_Name_kw (ld_blt I hg hm PyProof.Rows.boot_zip ?_)
  refine PySem.W.callWith_of (P := fun _ => True) ?_ (fun h _ => looks_ty "zip" True.intro) ?_
  · show ((backTo pos (starEach _ X.env)).any (·.1) || false) = false
    rw [hs, Bool.or_false]
    exact hpl
  have he : backTo pos (starEach [e1, e2, e3] X.env) = (false, eval e1 X.env) :: backTo pos (starEach [e2, e3] X.env) := by rw [hs]; rfl
  rw [he]
  refine PyProof.Rows.evalArgs_kwB rfl ?_
  rw [← he]
  refine thn (ha.run pos pins s σ H _ I h) fun us s0 ⟨vs, H1, I0, r1, q1⟩ => ?_
  refine PyProof.Rows.kws_cons (Constant_bool (PyProof.Rows.kws_nil ⟨True.intro, ?_⟩))
  have I1 := I0
  obtain ⟨l, ev, el, hl, q1⟩ := q1
  subst ev
  obtain ⟨b1, b2, b3, rfl⟩ : ∃ b1 b2 b3 : Bool, fl = [b1, b2, b3] := match fl, hfl with | [_, _, _], _ => ⟨_, _, _, rfl⟩
  obtain ⟨c1, c2, c3, rfl⟩ : ∃ c1 c2 c3 : Addr, l = [c1, c2, c3] := match l, el with | [_, _, _], _ => ⟨_, _, _, rfl⟩
  cases r1 with
  | cons r_1 rr1 =>
    cases r_1
    cases rr1 with
    | cons r_2 rr2 =>
      cases r_2
      cases rr2 with
      | cons r_3 rr3 =>
        cases r_3
        cases rr3
        obtain ⟨xs1, hq1⟩ := hl (b1, c1) (by simp)
        obtain ⟨its1, rv1, g1, lt1⟩ := sq_seq I1 hq1
        obtain ⟨xs2, hq2⟩ := hl (b2, c2) (by simp)
        obtain ⟨its2, rv2, g2, lt2⟩ := sq_seq I1 hq2
        obtain ⟨xs3, hq3⟩ := hl (b3, c3) (by simp)
        obtain ⟨its3, rv3, g3, lt3⟩ := sq_seq I1 hq3
        have frs : ∀ c, c ∈ [s0.heap.objs.size + 5, s0.heap.objs.size + 3, s0.heap.objs.size + 4, s0.heap.objs.size, s0.heap.objs.size + 1, s0.heap.objs.size + 2] → FpOk X pins H1 c := fun c hcm => by
          have e : c = s0.heap.objs.size + 5 ∨ c = s0.heap.objs.size + 3 ∨ c = s0.heap.objs.size + 4 ∨ c = s0.heap.objs.size ∨ c = s0.heap.objs.size + 1 ∨ c = s0.heap.objs.size + 2 := by simpa using hcm
          have hle : s0.heap.objs.size ≤ c := by
            rcases e with q | q | q | q | q | q
            · rw [q]; exact Nat.le_add_right _ _
            · rw [q]; exact Nat.le_add_right _ _
            · rw [q]; exact Nat.le_add_right _ _
            · rw [q]; exact Nat.le_refl _
            · rw [q]; exact Nat.le_add_right _ _
            · rw [q]; exact Nat.le_add_right _ _
          exact I1.fpOk hle (I1.hok.fresh hle)
        refine begins_strict3 (begins_of (b1, c1) its1) (begins_of (b2, c2) its2) (begins_of (b3, c3) its3) g1 g2 g3 fun hA hz hTI hTO y1 y2 y3 kk => iter_zip hz ?_
        have I2 : Inv X pins σ H1 { s0 with heap := hA } := I1.kept (t' := s0.toks) kk
        exact ⟨_, [s0.heap.objs.size + 5, s0.heap.objs.size + 3, s0.heap.objs.size + 4, s0.heap.objs.size, s0.heap.objs.size + 1, s0.heap.objs.size + 2], _, _, H1, rfl, I2, turn_z3 (sep_new3 lt1 lt2 lt3) (Nat.ne_of_lt lt1) (Nat.ne_of_lt (Nat.lt_of_lt_of_le lt2 (Nat.le_add_right _ 1))) (Nat.ne_of_lt (Nat.lt_of_lt_of_le lt3 (Nat.le_add_right _ 2))), ⟨hz, hTI, ⟨_, _, _, hTO⟩, SqIt.begin y1, SqIt.begin y2, SqIt.begin y3⟩, frs, q1⟩
theorem pi_z3 {X : Cx} {e1 e2 e3 : Expr} {ta : TA} {p pos tpos : Pos} {elts : List Expr} {kk : Nat} {fl : List Bool} (hfl : fl.length = 3) (hg : Gl X "zip") (hm : X.mg "zip" = none) (ha : PA X [e1, e2, e3] ta)
    (hs : starEach [e1, e2, e3] X.env = (false, eval e1 X.env) :: starEach [e2, e3] X.env := by rfl) (hpl : (backTo pos (starEach [e2, e3] X.env)).any (·.1) = false := by rfl) :
    PI X (.Tuple elts kk tpos) (.Call (.Name "zip" p) [e1, e2, e3] [] pos) (iZ X.K fl ta) := by
  refine ⟨fun pins s σ H R I h => ?_⟩
  refine Call_ (ld_blt I hg hm PyProof.Rows.boot_zip (PyProof.Rows.callWith_type1 (thn (ha.run pos pins s σ H _ I h) fun us s0 ⟨vs, H1, I1, r1, q1⟩ => ?_) hs hpl))
  obtain ⟨l, ev, el, hl, q1⟩ := q1
  subst ev
  obtain ⟨b1, b2, b3, rfl⟩ : ∃ b1 b2 b3 : Bool, fl = [b1, b2, b3] := match fl, hfl with | [_, _, _], _ => ⟨_, _, _, rfl⟩
  obtain ⟨c1, c2, c3, rfl⟩ : ∃ c1 c2 c3 : Addr, l = [c1, c2, c3] := match l, el with | [_, _, _], _ => ⟨_, _, _, rfl⟩
  cases r1 with
  | cons r_1 rr1 =>
    cases r_1
    cases rr1 with
    | cons r_2 rr2 =>
      cases r_2
      cases rr2 with
      | cons r_3 rr3 =>
        cases r_3
        cases rr3
        obtain ⟨xs1, hq1⟩ := hl (b1, c1) (by simp)
        obtain ⟨its1, rv1, g1, lt1⟩ := sq_seq I1 hq1
        obtain ⟨xs2, hq2⟩ := hl (b2, c2) (by simp)
        obtain ⟨its2, rv2, g2, lt2⟩ := sq_seq I1 hq2
        obtain ⟨xs3, hq3⟩ := hl (b3, c3) (by simp)
        obtain ⟨its3, rv3, g3, lt3⟩ := sq_seq I1 hq3
        have frs : ∀ c, c ∈ [s0.heap.objs.size + 5, s0.heap.objs.size + 3, s0.heap.objs.size + 4, s0.heap.objs.size, s0.heap.objs.size + 1, s0.heap.objs.size + 2] → FpOk X pins H1 c := fun c hcm => by
          have e : c = s0.heap.objs.size + 5 ∨ c = s0.heap.objs.size + 3 ∨ c = s0.heap.objs.size + 4 ∨ c = s0.heap.objs.size ∨ c = s0.heap.objs.size + 1 ∨ c = s0.heap.objs.size + 2 := by simpa using hcm
          have hle : s0.heap.objs.size ≤ c := by
            rcases e with q | q | q | q | q | q
            · rw [q]; exact Nat.le_add_right _ _
            · rw [q]; exact Nat.le_add_right _ _
            · rw [q]; exact Nat.le_add_right _ _
            · rw [q]; exact Nat.le_refl _
            · rw [q]; exact Nat.le_add_right _ _
            · rw [q]; exact Nat.le_add_right _ _
          exact I1.fpOk hle (I1.hok.fresh hle)
        refine zip_begins3 (begins_of (b1, c1) its1) (begins_of (b2, c2) its2) (begins_of (b3, c3) its3) g1 g2 g3 fun hA hz hTI hTO y1 y2 y3 _ kk => iter_zip (b := false) hz ?_
        have I2 : Inv X pins σ H1 { s0 with heap := hA } := I1.kept (t' := s0.toks) kk
        exact ⟨_, [s0.heap.objs.size + 5, s0.heap.objs.size + 3, s0.heap.objs.size + 4, s0.heap.objs.size, s0.heap.objs.size + 1, s0.heap.objs.size + 2], _, _, H1, rfl, I2, turn_z3 (sep_new3 lt1 lt2 lt3) (Nat.ne_of_lt lt1) (Nat.ne_of_lt (Nat.lt_of_lt_of_le lt2 (Nat.le_add_right _ 1))) (Nat.ne_of_lt (Nat.lt_of_lt_of_le lt3 (Nat.le_add_right _ 2))), ⟨hz, hTI, ⟨_, _, _, hTO⟩, SqIt.begin y1, SqIt.begin y2, SqIt.begin y3⟩, frs, q1⟩
end CZ

namespace CS
open PySem PySem.Spec PyProof.Rows L2
/-! ### rules beside the layer's -/
section
variable {X : Cx}
/-- a product, whatever the reason that it fits -/
theorem op_mulI : OpR X (binaryOp .Mult) (rI IntMulOk fun i j => .int (i * j)) := opI fun _ _ _ _ _ _ _ hc q => mul_int q hc
/-- list + list, however each is known -/
def rCatR (K : PySem.W.Frag) : R2 := fun x y H Q => ∃ l b xs zs, x = .ref l ∧ y = .ref b ∧ SqL K H l xs ∧ SqL K H b zs ∧ xs.length + zs.length ≤ sizeLine ∧ ∀ p, H p = none → Q (.ref p) (upd H p (.lst (xs ++ zs)))
theorem op_catR : OpR X (binaryOp .Add) (rCatR X.K) := by
  intro pins s σ H x y v u Q I rx ry h
  obtain ⟨l, b, xs, zs, rfl, rfl, hH, hB, hz, q⟩ := h
  cases rx
  cases ry
  obtain ⟨its, r, p1, _⟩ := I.list hH
  obtain ⟨its2, r2, p2, _⟩ := I.list hB
  obtain ⟨⟨cls, dd, data, sl⟩, ho, hc, n, hd⟩ := id p1.isList
  obtain ⟨⟨cls2, dd2, data2, sl2⟩, ho2, hc2, n2, hd2⟩ := id p2.isList
  simp only at hc hd hc2 hd2
  subst hc hd hc2 hd2
  have l1 := r.length
  have l2 := r2.length
  have ea : its.toArray ++ its2.toArray = (its ++ its2).toArray := by simp
  refine concat_meets ⟨_, ho, rfl⟩ ⟨_, ho2, rfl⟩ noFill_list_add seq_list_add PySem.F.slot_list_add PySem.F.entry_list_add (PySem.F.args_list_add_2 _ _) (list_addW l b its.toArray its2.toArray n n2 dd dd2 sl sl2 (by rw [List.size_toArray, List.size_toArray]; omega)) ⟨ho, ho2, ?_⟩
  rw [ea]
  exact ⟨.ref _, _, I.lnew (t' := s.toks) (r.append r2) (by rw [List.length_append]; omega), rfl, q _ I.fresh⟩
theorem pi_or {tg it : Expr} {w1 w2 : TI} (h1 : PI X tg it w1) (h2 : PI X tg it w2) : PI X tg it (fun σ H R => w1 σ H R ∨ w2 σ H R) :=
  ⟨fun pins s σ H R I h => h.elim (fun z => h1.run pins s σ H R I z) fun z => h2.run pins s σ H R I z⟩
end
/-! ### calls by keywords alone -/
def pick {α : Type} (js : List Nat) (l : List α) : List α := js.filterMap fun j => l[j]?
theorem vals_pick {xs : List V} {us : List Value} (r : Vals xs us) : ∀ js : List Nat, Vals (pick js xs) (pick js us)
  | [] => .nil
  | j :: js => by
    have ih := vals_pick r js
    unfold pick at ih ⊢
    cases e : xs[j]? with
    | none =>
      have e2 := r.none_of e
      rw [List.filterMap_cons_none (by rw [e]), List.filterMap_cons_none (by rw [e2])]
      exact ih
    | some x =>
      obtain ⟨u, e2, ru⟩ := r.get e
      rw [List.filterMap_cons_some (by rw [e]), List.filterMap_cons_some (by rw [e2])]
      exact .cons ru ih
theorem kbn_of {K : PySem.W.Frag} {x qual : Str} {st : Stmt} {f : Addr} {fd : FuncData} {ps : List Str} (F : Fun K x qual st f fd) (n : Nat) (ks : List Str) (js : List Nat)
    (h : ∀ (kV doc pm : Value) (an : Option Addr) (cdv ct : Value) (us ws : List Value), us.length = n → ws.length = ks.length → bindArgs (PySem.W.fnOf x qual (defArgs st) (defBody st) (defScope st) .none kV doc pm an cdv ct) ⟨us, ks.zip ws⟩ = pure (ps.zip (pick js (us ++ ws)))) :
    KBn K fd ps n ks (fun us ws => pick js (us ++ ws)) (fun vs zs => pick js (vs ++ zs)) := by
  obtain ⟨oc, od, kV, doc, pm, an, cdv, ct, osl, rfl, lk, hcd⟩ := F.ex
  exact ⟨fun s us ws _ h1 h2 => .of_eq (h kV doc pm an cdv ct us ws h1 h2), fun r1 r2 => vals_pick (r1.append r2) js⟩
section
variable {X : Cx} {CX : CXT} {k n : Nat} {f C : Addr} {fd : FuncData} {ps ks : List Str} {sp : Sp} {E : XK} {x m : Str} {p pos apos : Pos} {o : Expr} {kws : List Keyword} {ta : TE} {tk : TA} {g : List Value → List Value → List Value} {gV : List V → List V → List V}
theorem run_kw {pins : List (Addr × Obj)} {σ : L2.St} {H : Hp} {s : Shared} {Q : VK} {us ws : List Value} {vs zs : List V} (F : FnOk X.prog X.w X.K X.mg X.base CX k f fd ps sp) (hr : Room k X.A) (hb : KBn X.K fd ps n ks g gV) (hx : Passes CX X E)
    (I : Inv X pins σ H s) (r : Vals vs us) (rz : Vals zs ws) (l1 : vs.length = n) (l2 : zs.length = ks.length) (h : sp (gV vs zs) H Q E) : wpAny (model X.prog X.w) X.A (call (.ref f) us (ks.zip ws)) (EP X pins σ Q) X.xe s := by
  refine wpAny_call (codeAny_mono (F.run X.A X.stack s H ⟨us, ks.zip ws⟩ (g us ws) (gV vs zs) Q E hr I.env0 (hb.to s us ws I.kIn (r.length.symm.trans l1) (rz.length.symm.trans l2)) (hb.rel r rz) h) fun res s2 hq => ?_)
  cases res with
  | error e => exact hx pins σ H s e s2 I hq
  | ok fl =>
    cases fl with
    | ret u => exact I.after hq
    | next => exact False.elim hq
    | brk => exact False.elim hq
    | cont => exact False.elim hq
/-- f(k = v, ..) -/
def tCallKw (m : Nat) (sp : Sp) (gV : List V → List V → List V) (E : XK) (tk : TA) : TE := fun σ H Q => tk σ H fun zs H1 => zs.length = m ∧ sp (gV [] zs) H1 Q E
theorem pe_callKw (F : FnOk X.prog X.w X.K X.mg X.base CX k f fd ps sp) (hr : Room k X.A) (hg : Gl X x) (hm : X.mg x = some (.ref f)) (hk : PySem.W.keepIn X.K (.ref f) = true) (hb : KBn X.K fd ps 0 ks g gV) (hx : Passes CX X E) (hkw : PK X kws tk)
    (hall : (backToKw pos (keywordEach kws X.env)).all (·.1.isSome) = true := by rfl) (hks : (backToKw pos (keywordEach kws X.env)).filterMap (·.1) = ks := by rfl) (hdb : (x == ("__debug__" : Str)) = false := by decide)
    (hpl : ((backTo pos (starEach [] X.env)).any (·.1) || (backToKw pos (keywordEach kws X.env)).any (·.1.isNone)) = false := by rfl) :
    PE X (.Call (.Name x p) [] kws pos) (tCallKw ks.length sp gV E tk) := by
  refine ⟨fun pins s σ H Q I h => ?_⟩
  refine wpAny_Call_Name_kw (ld_glob I hg hm ?_ hdb)
  refine PySem.W.callWith_KW0 (h₀ := X.base) I.ok.mod.kin hk hall (thn (hkw.run pos pins s σ H _ I h) fun ws s2 ⟨zs, H2, I2, rz, l2, q2⟩ => ⟨I2.kIn, ?_⟩) hpl
  rw [hks]
  exact run_kw (us := []) (vs := []) F hr hb hx I2 .nil rz rfl l2 q2
/-- o.m(k = v, ..) -/
def tMethKw (C : Addr) (m : Str) (n : Nat) (sp : Sp) (gV : List V → List V → List V) (E : XK) (ta : TE) (tk : TA) : TE := fun σ H Q => ta σ H fun x H1 => ∃ a dx fs, x = .ref a ∧ H1 a = some (.ins C dx fs) ∧ fs.lookup m = none ∧
  tk σ H1 fun zs H2 => zs.length = n ∧ sp (gV [x] zs) H2 Q E
theorem pe_methKw {pl : Sem Bool} (he : PE X o ta) (c : Cls X.K C) (hm : Meth X.K C m f) (F : FnOk X.prog X.w X.K X.mg X.base CX k f fd ps sp) (hr : Room k X.A) (hb : KBn X.K fd ps 1 ks g gV) (hx : Passes CX X E) (hkw : PK X kws tk)
    (hall : (backToKw pos (keywordEach kws X.env)).all (·.1.isSome) = true := by rfl) (hks : (backToKw pos (keywordEach kws X.env)).filterMap (·.1) = ks := by rfl)
    (hpl : ((backTo pos (starEach [] X.env)).any (·.1) || (backToKw pos (keywordEach kws X.env)).any (·.1.isNone)) = false := by rfl)
    (ht : eval (.Call (.Attribute o m apos) [] kws pos) X.env = (do
      let ov ← eval o X.env
      standAt apos.atName
      let (f, first) ← holding [ov] (getMethod ov m pl)
      callWith pos f first (backTo pos (starEach [] X.env)) (backToKw pos (keywordEach kws X.env))) := by rfl) :
    PE X (.Call (.Attribute o m apos) [] kws pos) (tMethKw C m ks.length sp gV E ta tk) := by
  refine ⟨fun pins s σ H Q I h => ?_⟩
  refine PySem.W.methodCall_KW (pl := pl) (thn (he.run pins s σ H _ I h) fun u s1 ⟨x, H1, I1, rx, a, dx, fs, ex, ea, l, q⟩ => ?_) ht
  subst ex
  obtain rfl : u = Value.ref a := rx
  refine getmeth_ok I1 ea c hm l ?_
  refine PySem.W.callWith_KW0 (first := [.ref a]) (h₀ := X.base) I.ok.mod.kin hm.kp hall (thn (hkw.run pos pins s1 σ H1 _ I1 q) fun ws s2 ⟨zs, H2, I2, rz, l2, q2⟩ => ⟨I2.kIn, ?_⟩) hpl
  rw [hks]
  exact run_kw (us := [.ref a]) (vs := [.ref a]) F hr hb hx I2 (.cons rfl .nil) rz rfl l2 q2
end
/-! ### heaps that grow -/
abbrev Ex (H H2 : Hp) : Prop := Evl.Ex H H2
theorem exr {H : Hp} : Ex H H := fun _ _ h => h
theorem exn {H : Hp} {p : Addr} {o : HO} (h : H p = none) : Ex H (upd H p o) := Evl.Ex.new h
theorem SqK.mono {K : PySem.W.Frag} {H H2 : Hp} {p : Bool × Addr} {xs : List V} (e : Ex H H2) (h : CZ.SqK K H p xs) : CZ.SqK K H2 p xs := by
  obtain ⟨b, a⟩ := p
  cases b
  · exact Evl.ex_l e h
  · exact Evl.ex_t e h
/-- a comprehension whose element and tests leave all that stood: out i is what stands behind i turns -/
theorem lc_out {J : It} {n : Nat} {G : Hp → Prop} {Y : Nat → Hp → V → Hp → Prop} (w : Walk J n G Y) {g : TG} {tt : TT} {te : TE} {vs : List Nat} {σ : L2.St} {H1 : Hp} {D : Addr} {Qd : Hp → Prop} (out : Nat → List V) (h0 : out 0 = []) (hD : H1 D = none)
    (hlen : ∀ i, i < n → (out i).length < sizeLine) (hG : ∀ H, Ex H1 H → G H)
    (hs : ∀ i x H H2 (Nx : Hp → Prop), i < n → Ex H1 H → H D = some (.lst (out i)) → Y i H x H2 →
      (∀ y H5, Ex H H5 → out (i + 1) = out i ++ [y] → ∃ acc, H5 D = some (.lst acc) ∧ acc.length < sizeLine ∧ Nx (upd H5 D (.lst (acc ++ [y])))) → (∀ H4, Ex H H4 → out (i + 1) = out i → Nx H4) →
      g x (wipe σ vs) H2 fun σ2 H3 => wipe σ2 vs = wipe σ vs ∧ tt σ2 H3 fun b H4 => if b = true then te σ2 H4 fun y H5 => ∃ acc, H5 D = some (.lst acc) ∧ acc.length < sizeLine ∧ Nx (upd H5 D (.lst (acc ++ [y]))) else Nx H4)
    (hd : ∀ H, Ex H1 H → H D = some (.lst (out n)) → Qd H) :
    ∃ W : Nat → Nat → Hp → Prop, (∃ m, W 0 m (upd H1 D (.lst []))) ∧ ∀ i m H, W i m H →
      (J.stop i H ∧ Qd H) ∨ (J.go i H ∧ ∃ Nx : Hp → Prop, (∀ H2, Nx H2 → ∃ m2, m2 < m ∧ W (i + 1) m2 H2) ∧ ∀ x H2, J.yld i H x H2 → g x (wipe σ vs) H2 fun σ2 H3 => wipe σ2 vs = wipe σ vs ∧ tt σ2 H3 fun b H4 =>
        if b = true then te σ2 H4 fun y H5 => ∃ acc, H5 D = some (.lst acc) ∧ acc.length < sizeLine ∧ Nx (upd H5 D (.lst (acc ++ [y]))) else Nx H4) := by
  refine lc_it w (fun i H => Ex H1 H ∧ H D = some (.lst (out i))) ⟨exn hD, by rw [upd_same, h0]⟩ (fun i H _ p => hG H p.1) (fun i x H H2 hi p y => ?_) (fun H p => hd H p.1 p.2)
  refine hs i x H H2 _ hi p.1 p.2 y (fun y2 H5 e eo => ⟨out i, e D _ p.2, hlen i hi, fun b o q => ?_, by rw [upd_same, eo]⟩) (fun H4 e eo => ⟨fun b o q => e b o (p.1 b o q), by rw [eo]; exact e D _ p.2⟩)
  rw [upd_ne (ne_of_none q hD)]
  exact e b o (p.1 b o q)
/-- .. whose list is known: vals -/
theorem lc_vals {J : It} {n : Nat} {G : Hp → Prop} {Y : Nat → Hp → V → Hp → Prop} (w : Walk J n G Y) {g : TG} {te : TE} {vs : List Nat} {σ : L2.St} {H1 : Hp} {D : Addr} {Qd : Hp → Prop} (vals : List V) (hn : vals.length = n) (hl : n ≤ 10000000) (hD : H1 D = none)
    (hG : ∀ H, Ex H1 H → G H)
    (hs : ∀ i x H H2 (R : VK), i < n → Ex H1 H → Y i H x H2 → (∀ y H5, Ex H H5 → vals[i]? = some y → R y H5) → g x (wipe σ vs) H2 fun σ2 H3 => wipe σ2 vs = wipe σ vs ∧ te σ2 H3 R)
    (hg : ∀ x σ2 H2 (R R2 : L2.St → Hp → Prop), (∀ σ3 H3, R σ3 H3 → R2 σ3 H3) → g x σ2 H2 R → g x σ2 H2 R2)
    (hd : ∀ H, Ex H1 H → H D = some (.lst vals) → Qd H) :
    ∃ W : Nat → Nat → Hp → Prop, (∃ m, W 0 m (upd H1 D (.lst []))) ∧ ∀ i m H, W i m H →
      (J.stop i H ∧ Qd H) ∨ (J.go i H ∧ ∃ Nx : Hp → Prop, (∀ H2, Nx H2 → ∃ m2, m2 < m ∧ W (i + 1) m2 H2) ∧ ∀ x H2, J.yld i H x H2 → g x (wipe σ vs) H2 fun σ2 H3 => wipe σ2 vs = wipe σ vs ∧ tYes σ2 H3 fun b H4 =>
        if b = true then te σ2 H4 fun y H5 => ∃ acc, H5 D = some (.lst acc) ∧ acc.length < sizeLine ∧ Nx (upd H5 D (.lst (acc ++ [y]))) else Nx H4) := by
  refine lc_out w (fun i => vals.take i) rfl hD (fun i hi => ?_) hG (fun i x H H2 Nx hi e hDi y kA _ => ?_) (fun H e h => hd H e ?_)
  · rw [List.length_take]
    exact Nat.lt_of_le_of_lt (Nat.le_trans (Nat.min_le_right _ _) (by rw [hn]; exact hl)) (by decide)
  · refine hg _ _ _ _ _ (fun σ3 H3 q => ⟨q.1, ?_⟩) (hs i x H H2 (fun y H5 => ∃ acc, H5 D = some (.lst acc) ∧ acc.length < sizeLine ∧ Nx (upd H5 D (.lst (acc ++ [y])))) hi e y fun y2 H5 e5 ev => kA y2 H5 e5 ?_)
    · exact q.2
    · rw [List.take_add_one, ev]
      rfl
  · rw [h, List.take_of_length_le (by rw [hn]; exact Nat.le_refl _)]
theorem gmono_name {i : Nat} : ∀ x σ2 H2 (R R2 : L2.St → Hp → Prop), (∀ σ3 H3, R σ3 H3 → R2 σ3 H3) → gName i x σ2 H2 R → gName i x σ2 H2 R2 := fun _ _ _ _ _ h q => h _ _ q
theorem gmono_nil : ∀ vs σ2 H2 (R R2 : L2.St → Hp → Prop), (∀ σ3 H3, R σ3 H3 → R2 σ3 H3) → gNil vs σ2 H2 R → gNil vs σ2 H2 R2 := fun _ _ _ _ _ h q => ⟨q.1, h _ _ q.2⟩
theorem gmono_cons {t : TG} {u : TGs} (ht : ∀ x σ2 H2 (R R2 : L2.St → Hp → Prop), (∀ σ3 H3, R σ3 H3 → R2 σ3 H3) → t x σ2 H2 R → t x σ2 H2 R2) (hu : ∀ x σ2 H2 (R R2 : L2.St → Hp → Prop), (∀ σ3 H3, R σ3 H3 → R2 σ3 H3) → u x σ2 H2 R → u x σ2 H2 R2) :
    ∀ vs σ2 H2 (R R2 : L2.St → Hp → Prop), (∀ σ3 H3, R σ3 H3 → R2 σ3 H3) → gCons t u vs σ2 H2 R → gCons t u vs σ2 H2 R2 := fun vs σ2 H2 R R2 h q => by
  obtain ⟨v, r, e, q⟩ := q
  exact ⟨v, r, e, ht _ _ _ _ _ (fun σ3 H3 z => hu _ _ _ _ _ h z) q⟩
theorem gmono_tup {K : PySem.W.Frag} {n : Nat} {t : TGs} (ht : ∀ x σ2 H2 (R R2 : L2.St → Hp → Prop), (∀ σ3 H3, R σ3 H3 → R2 σ3 H3) → t x σ2 H2 R → t x σ2 H2 R2) :
    ∀ v σ2 H2 (R R2 : L2.St → Hp → Prop), (∀ σ3 H3, R σ3 H3 → R2 σ3 H3) → gTup K n t v σ2 H2 R → gTup K n t v σ2 H2 R2 := fun v σ2 H2 R R2 h q => by
  obtain ⟨a, xs, e, h1, h2, q⟩ := q
  exact ⟨a, xs, e, h1, h2, ht _ _ _ _ _ h q⟩
/-! ### a list or a tuple walked -/
def ItS (K : PySem.W.Frag) (p : Bool × Addr) : It := if p.1 = true then Itt K p.2 else Itl K p.2
def iSeq (K : PySem.W.Frag) (tl : TE) : TI := fun σ H R => tl σ H fun x H1 => ∃ p : Bool × Addr, x = .ref p.2 ∧ (∃ xs, CZ.SqK K H1 p xs) ∧ R (ItS K p) H1
theorem pi_seq {X : Cx} {tg l : Expr} {tl : TE} (hl : PE X l tl) : PI X tg l (iSeq X.K tl) := by
  refine ⟨fun pins s σ H R I h => ?_⟩
  refine thn (hl.run pins s σ H _ I h) fun v s1 ⟨x, H1, I1, r1, q1⟩ => ?_
  obtain ⟨⟨b, a⟩, ex, ⟨xs, hq⟩, q⟩ := q1
  subst ex
  cases r1
  obtain ⟨its, rv, g, lt⟩ := CZ.sq_seq I1 hq
  have fp : ∀ c ∈ [s1.heap.objs.size], FpOk X pins H1 c := fun c hc => by
    have e : c = s1.heap.objs.size := by simpa using hc
    rw [e]
    exact I1.fpOk (Nat.le_refl _) (I1.hok.fresh (Nat.le_refl _))
  refine (CZ.begins_of (b, a) its).iter _ _ _ _ s1 _ g ?_
  have I2 : Inv X pins σ H1 { s1 with heap := s1.heap.push (CZ.itO (b, a)) } := I1.kept (t' := s1.toks) fun c o e => Heap.get?_push_of_some _ e
  cases b
  · exact ⟨_, [s1.heap.objs.size], _, _, H1, rfl, I2, turn_list a _, ⟨_, Heap.get?_push_size _ rfl, rfl, rfl⟩, fp, q⟩
  · exact ⟨_, [s1.heap.objs.size], _, _, H1, rfl, I2, turn_tuple a _, ⟨_, Heap.get?_push_size _ rfl, rfl, rfl⟩, fp, q⟩
theorem walk_seq {K : PySem.W.Frag} {p : Bool × Addr} {xs : List V} : Walk (ItS K p) xs.length (fun H => CZ.SqK K H p xs) (YAt xs) := by
  obtain ⟨b, a⟩ := p
  cases b
  · exact walk_list
  · exact walk_tup
theorem itt {c : Bool} {A B : Prop} (h : c = true) (a : A) : if c = true then A else B := by rw [if_pos h]; exact a
theorem itf {c : Bool} {A B : Prop} (h : c = false) (b : B) : if c = true then A else B := by rw [h, if_neg Bool.false_ne_true]; exact b
theorem map_get {α : Type} {f : α → V} {l : List α} {i : Nat} {x : V} (h : (l.map f)[i]? = some x) : ∃ n, l[i]? = some n ∧ x = f n := by
  rw [List.getElem?_map] at h
  cases e : l[i]? with
  | none => rw [e] at h; cases h
  | some n => rw [e] at h; exact ⟨n, rfl, (Option.some.inj h).symm⟩
end CS

namespace CE
open PySem PySem.Spec PyProof.Rows L2 CZ
/-! ### enumerate over a list or a tuple -/
theorem enumO_new {v : Value} {oo : Obj} {Hq : Heap → Prop} (bg : Begins v oo Hq) :
    Meets (Builtin.«enumerate.__new__» ⟨[.type "enumerate", v], []⟩) (fun _ R t => Hq t.heap ∧
      R (.ok (.ret (.ref (t.heap.push oo).objs.size))) { t with heap := (t.heap.push oo).push { cls := .type "enumerate", data := .fields #[.none, .bool false, .ref t.heap.objs.size, rawInt 0, .none, .none] } }) :=
  .of_wp fun pg wo Ar R t hyp => by
    obtain ⟨hh, gg, dd, tt, oq⟩ := t
    obtain ⟨start, goal⟩ := hyp
    have es := PySem.sub_enumerate
    have go1 : ∀ {A2 : Around} {E2 : Value → Shared → Prop} {Q2 : Value → Shared → Prop}, Q2 (.ref hh.objs.size) ⟨hh.push oo, gg, dd, tt, oq⟩ → wpAny (model pg wo) A2 (pyIter v) Q2 E2 ⟨hh, gg, dd, tt, oq⟩ :=
      fun z => bg.iter pg wo _ _ ⟨hh, gg, dd, tt, oq⟩ _ start z
    wp_walk using go1
    refine wpAny_stack_any fun stk => wpAny_pure ?_
    split
    · rename_i cc _ _ _ _ _
      cases (cc == Value.type "enumerate")
      all_goals
        wp_walk using go1
        exact ⟨_, rfl, goal⟩
    · wp_walk using go1
      exact ⟨_, rfl, goal⟩
theorem enum_of {pg : Program} {wo : World} {Ar : Around} {Ex1 : Value → Shared → Prop} {t : Shared} {v : Value} {oo : Obj} {Hq : Heap → Prop} {Qe : Value → Shared → Prop} (bg : Begins v oo Hq) (start : Hq t.heap)
    (goal : ∀ hN, IsEnum hN (t.heap.objs.size + 1) t.heap.objs.size 0 .none → hN.get? t.heap.objs.size = some oo → (∀ c ob, t.heap.get? c = some ob → hN.get? c = some ob) → Qe (.ref (t.heap.objs.size + 1)) { t with heap := hN }) :
    wpAny (model pg wo) Ar (call (.type "enumerate") [v]) Qe Ex1 t := by
  refine callType_new F.called_enumerate (by decide) (F.typeCall_enumerate_1 _) (F.newCall_enumerate_1 _) (fun ob => F.args_object_init_2 ob _) F.entry_enumerate_new (enumO_new bg) ⟨start, ?_⟩
  have size1 : (t.heap.push oo).objs.size = t.heap.objs.size + 1 := Heap.size_push ..
  have isE : IsEnum ((t.heap.push oo).push { cls := .type "enumerate", data := .fields #[.none, .bool false, .ref t.heap.objs.size, rawInt 0, .none, .none] }) (t.heap.objs.size + 1) t.heap.objs.size 0 .none := by
    have at1 := Heap.get?_push_size (t.heap.push oo) (o := { cls := .type "enumerate", data := .fields #[.none, .bool false, .ref t.heap.objs.size, rawInt 0, .none, .none] }) rfl
    rw [size1] at at1
    exact at1
  show _ ∧ _
  rw [size1]
  exact ⟨⟨_, isE, rfl⟩, goal _ isE (Heap.get?_push_of_some _ (Heap.get?_push_size _ bg.free)) fun c ob z => Heap.get?_push_of_some _ (Heap.get?_push_of_some _ z)⟩
/-- what stands at p, each item in a new pair -/
def ItE (K : PySem.W.Frag) (p : Bool × Addr) : It :=
  ⟨fun i H => ∃ (xs : List V) (x : V), SqK K H p xs ∧ xs[i]? = some x, fun i H v H2 => ∃ T x, v = .ref T ∧ H T = none ∧ H2 = upd H T (.tup [.int (i : Nat), x]) ∧ ∀ xs, SqK K H p xs → xs[i]? = some x, fun i H => ∃ xs : List V, SqK K H p xs ∧ xs.length = i⟩
theorem turn_e {P : Program} {w : World} {K : PySem.W.Frag} {elts : List Expr} {kk : Nat} {tpos : Pos} {en it : Addr} {p : Bool × Addr} (n1 : p.2 ≠ it) (n2 : en ≠ it) (n3 : en ≠ p.2) :
    Turn P w K (.Tuple elts kk tpos) (ItE K p) [en, it] en (fun i h => (∃ old, IsEnum h en it ((i : Nat) : Int) old) ∧ SqIt h it p i) where
  mem := by simp
  obj := fun i h st c hc => by
    obtain ⟨⟨old, ie⟩, si⟩ := st
    have e : c = en ∨ c = it := by simpa using hc
    rcases e with q | q
    · rw [q]; exact ⟨_, ie, fun v q => nomatch q⟩
    · rw [q]; exact si.obj
  keep := fun i h h2 st k => by
    obtain ⟨⟨old, ie⟩, si⟩ := st
    exact ⟨⟨old, k en (by simp) _ ie⟩, si.at fun o q => k it (by simp) o q⟩
  item := by
    intro X hP hw hK hc i pins s σ H E I hf st hg
    subst hP hw hK
    obtain ⟨⟨old, ie⟩, si⟩ := st
    obtain ⟨xs, x, hq, hx⟩ := hg
    obtain ⟨its, rv, sq, _⟩ := sq_seq I hq
    obtain ⟨u, hu, ru⟩ := rv.get hx
    have gu : its.toArray[i]? = some u := by simpa using hu
    have lu : i < its.toArray.size := by
      have := (List.getElem?_eq_some_iff.mp hu).1
      simpa using this
    have enl : en < s.heap.objs.size := Heap.lt_size ie
    have itl : it < s.heap.objs.size := by
      obtain ⟨_, q, _⟩ := si.obj
      exact Heap.lt_size q
    refine PySem.wpAny_pyNext_enum_itemD (draws_of (A := X.A.in1) (I.ok.hd hc) it p n1 its) ie ⟨si, sq⟩ lu n2 (by simp [n2, n3]) fun x1 hA tk hx1 out ⟨si2, _⟩ hT hsz hk => ?_
    obtain rfl : u = x1 := Option.some.inj (gu.symm.trans hx1)
    refine ⟨_, rfl, wpAny_letOwnedTupleGo_enum (s := { s with heap := hA, toks := tk + 1 }) out fun hB isB sb => ?_⟩
    replace sb : Heap.SameBut en hA hB := sb
    have hT2 : hB.get? s.heap.objs.size = some { cls := .type "tuple", data := .seq #[.int i tk, u] } := (sb.2 _ (Nat.ne_of_gt enl)).trans hT
    have made : ObjOk X.prog X.w (upd H s.heap.objs.size (.tup [.int (i : Nat), x])) hB s.heap.objs.size (.tup [.int (i : Nat), x]) := ⟨by show 2 ≤ sizeLine; decide, [.int i tk, u], .cons ⟨_, rfl⟩ (.cons ru .nil), ⟨_, hT2, rfl, _, rfl⟩⟩
    have I1 : Inv X pins σ (upd H s.heap.objs.size (.tup [.int (i : Nat), x])) { s with heap := hB, toks := tk + 1 } :=
      I.turnedNew (t' := tk + 1) (ch := [en, it]) (fun c ob hb q => (sb.2 c (fun z => hb (by simp [z]))).trans (hk c ob (fun z => hb (by simp [z])) (fun z => hb (by simp [z])) q)) hf (Nat.le_refl _) made
    refine ⟨.ref s.heap.objs.size, _, I1, rfl, ⟨_, x, rfl, I.hok.fresh (Nat.le_refl _), rfl, fun ys hy => by rw [sq_inj I hy hq]; exact hx⟩, ⟨⟨u, ?_⟩, si2.at fun o q => (sb.2 it n2.symm).trans q⟩, fun c hcm => ?_⟩
    · have next : ((i + 1 : Nat) : Int) = (i : Int) + 1 := by omega
      rw [next]
      exact isB
    · have small : c < s.heap.objs.size := by
        have e : c = en ∨ c = it := by simpa using hcm
        rcases e with q | q
        · rw [q]; exact enl
        · rw [q]; exact itl
      rw [upd_ne (Nat.ne_of_lt small)]
      exact (hf c hcm).1
  done := by
    intro X hP hw hK hc i pins s σ H E I hf st hg
    subst hP hw hK
    obtain ⟨⟨old, ie⟩, si⟩ := st
    obtain ⟨xs, hq, hx⟩ := hg
    obtain ⟨its, rv, sq, _⟩ := sq_seq I hq
    have li : its.toArray.size = i := by
      have := rv.length
      simp
      omega
    have dr := draws_of (prog := X.prog) (w := X.w) (A := X.A.in1) (I.ok.hd hc) it p n1 its
    rw [li] at dr
    exact PySem.wpAny_pyNext_enum_endD dr ie ⟨si, sq⟩ fun hA eb => ⟨rfl, I.turnedL (t' := s.toks) (ch := [en, it]) (fun c ob hb q => eb c ob (fun z => hb (by simp [z])) q) hf⟩
  self := fun A i s Q E st h => let ⟨⟨_, ie⟩, _⟩ := st; wpAny_pyIter_enum ie h
theorem walk_e {K : PySem.W.Frag} {p : Bool × Addr} {xs : List V} : Walk (ItE K p) xs.length (fun H => SqK K H p xs) (YPair (fun i => some (.int (i : Nat))) (fun i => xs[i]?)) :=
  ⟨fun i _ hi q => ⟨xs, xs[i], q, by simp [hi]⟩, fun _ q => ⟨xs, q, rfl⟩, fun i H v H2 _ q y => by
    obtain ⟨T, x, h1, h2, h3, h4⟩ := y
    exact ⟨T, _, x, h1, h2, h3, rfl, h4 xs q⟩⟩
/-- enumerate(e), e a list or a tuple -/
def iE (K : PySem.W.Frag) (ta : TA) : TI := fun σ H R => ta σ H fun vs H1 => ∃ p : Bool × Addr, vs = [.ref p.2] ∧ (∃ xs, SqK K H1 p xs) ∧ R (ItE K p) H1
theorem pi_e {X : Cx} {e : Expr} {ta : TA} {po pos tpos : Pos} {elts : List Expr} {kk : Nat} (hg : Gl X "enumerate") (hm : X.mg "enumerate" = none) (ha : PA X [e] ta) (hs : starEach [e] X.env = [(false, eval e X.env)] := by rfl) :
    PI X (.Tuple elts kk tpos) (.Call (.Name "enumerate" po) [e] [] pos) (iE X.K ta) := by
  refine ⟨fun pins s σ H R I h => ?_⟩
  refine Call_ (ld_blt I hg hm boot_enumerate (PyProof.Rows.callWith_type1 (thn (ha.run pos pins s σ H _ I h) fun us s0 ⟨vs, H1, I1, r1, q1⟩ => ?_) hs rfl))
  obtain ⟨p, ev, ⟨xs, hq⟩, q1⟩ := q1
  subst ev
  cases r1 with
  | cons r rr =>
    cases rr
    cases r
    obtain ⟨its, rv, sq, lt⟩ := sq_seq I1 hq
    refine enum_of (begins_of p its) sq fun hN ie io kk2 => wpAny_pyIter_enum ie ?_
    have I2 : Inv X pins σ H1 { s0 with heap := hN } := I1.kept (t' := s0.toks) kk2
    refine ⟨s0.heap.objs.size + 1, [s0.heap.objs.size + 1, s0.heap.objs.size], _, _, H1, rfl, I2, turn_e (Nat.ne_of_lt lt) (Nat.succ_ne_self _) (Nat.ne_of_gt (Nat.lt_succ_of_lt lt)), ⟨⟨.none, ie⟩, SqIt.begin io⟩, fun c hc => ?_, q1⟩
    have le : s0.heap.objs.size ≤ c := by
      have e : c = s0.heap.objs.size + 1 ∨ c = s0.heap.objs.size := by simpa using hc
      rcases e with z | z
      · rw [z]; exact Nat.le_add_right _ _
      · rw [z]; exact Nat.le_refl _
    exact I1.fpOk le (I1.hok.fresh le)
end CE

namespace CL
open PySem PySem.Spec PyProof.Rows L2
/-! ### set(l) of a list of ints -/
section
variable {pg : Program} {wo : World} {Ar : Around} {Ee : Value → Shared → Prop} {t : Shared}
set_option maxRecDepth 100000 in
set_option maxHeartbeats 3200000 in
theorem set_of_list {l : Addr} {its : Array Value} (ns : List Int) {Qe : Value → Shared → Prop} (calm : Ar.handled = none) (isl : t.heap.IsList l its) (intsA : IntsAre its.toList ns) (few : ns.length + 1 < scanBound)
    (goal : ∀ (hN : Heap) (k c : Nat), SetR wo hN t.heap.objs.size (fun j => decide (j ∈ ns)) c → c ≤ ns.length → (∀ b ob, t.heap.get? b = some ob → hN.get? b = some ob) → Qe (.ref t.heap.objs.size) { t with heap := hN, toks := k }) :
    wpAny (model pg wo) Ar (call (.type "set") [.ref l]) Qe Ee t := by
  have len : its.size = ns.length := by
    have z := IntsAre.length intsA
    rw [Array.length_toList] at z
    exact z
  obtain ⟨cc, tail, mro⟩ := PySem.F.called_set.mro
  have made := PySem.F.called_set.made
  have sub := PySem.F.called_set.sub
  refine wpAny_call (codeAny_of_tree ?_)
  show wpAny _ _ (callAny (.type "set") _) _ _ _
  refine wpAny_pure ⟨Code.quiet_builtin _ (by decide +kernel), codeAny_builtin PySem.F.entry_type_call ?_⟩
  rw [Around.under_plain (weight_type_call_type "set" [.ref l] []) rfl]
  have noType := PySem.F.called_set.notType
  have creates := PySem.F.called_set.canCreate
  have checked := PySem.F.typeCall_set_1 (.ref l)
  repeat (any_goals (first | assumption | wp_step))
  refine codeAny_mono (code_set_led1 (.ref l) (E := Ee) (Q₁ := fun ob t1 => ob = .ref t.heap.objs.size ∧ t1 = { t with heap := t.heap.push { cls := .type "set", dict := none, data := .set #[] 0 (.fresh 0 0 (!wo.params.followText "set-order")) } }) ⟨rfl, rfl⟩) fun r t1 hr => ?_
  cases r with
  | error e => exact hr
  | ok fl =>
    cases fl with
    | ret ob =>
      obtain ⟨rfl, rfl⟩ := hr
      have hS : (t.heap.push { cls := .type "set", dict := none, data := .set #[] 0 (.fresh 0 0 (!wo.params.followText "set-order")) }).get? t.heap.objs.size = some { cls := .type "set", dict := none, data := .set #[] 0 (.fresh 0 0 (!wo.params.followText "set-order")) } := Heap.get?_push_size _ rfl
      have tS : Shared.TypeIs { t with heap := t.heap.push { cls := .type "set", dict := none, data := .set #[] 0 (.fresh 0 0 (!wo.params.followText "set-order")) } } (.ref t.heap.objs.size) "set" := ⟨_, hS, rfl⟩
      have ini := PySem.F.called_set.init.lookup
      have bnd := PySem.F.called_set.init.bind (.ref t.heap.objs.size)
      repeat (any_goals (first | assumption | wp_step))
      refine codeAny_mono (codeAny_call_builtin (R := wants (fun r t2 => r = .none ∧ ∃ hN k c, t2 = { t with heap := hN, toks := k } ∧ SetR wo hN t.heap.objs.size (fun j => decide (j ∈ ns)) c ∧ c ≤ ns.length ∧
          (∀ b ob, t.heap.get? b = some ob → hN.get? b = some ob)) Ee) PySem.F.called_set.init.plain PySem.F.entry_set_init (check_set_init_1 tS ?_)) fun r2 t2 hr2 => ?_
      · obtain ⟨ol, hol, hcl, nl, hdl⟩ := id isl
        obtain ⟨ocls, odict, odata, oslots⟩ := ol
        simp only at hcl hdl
        subst hcl
        subst hdl
        have hol2 : (t.heap.push { cls := .type "set", dict := none, data := .set #[] 0 (.fresh 0 0 (!wo.params.followText "set-order")) }).get? l = some { cls := .type "list", dict := odict, data := .seq its nl, slots := oslots } := Heap.get?_push_of_some _ hol
        have s1 := PySem.F.sub_list_set
        have s2 := PySem.F.sub_list_frozenset
        have nd : (Value.type "list" == Value.type "dict") = false := by decide
        have isl2 : (t.heap.push { cls := .type "set", dict := none, data := .set #[] 0 (.fresh 0 0 (!wo.params.followText "set-order")) }).IsList l its := ⟨_, hol2, rfl, nl, rfl⟩
        unfold Builtin.«set.__init__» noKeywords Builtin.Frozenset.updateFrom
        generalize hPI : pyIter = PIt
        wp_walk
        subst hPI
        refine wpAny_pyIter_list isl2 ?_
        refine wpAny_bind (wpAny_runValue ?_)
        have lS : l < t.heap.objs.size := Heap.lt_size hol
        have calm3 : Ar.in1.in1.in1.handled = none := by simp [calm]
        have neI : l ≠ (t.heap.push { cls := .type "set", dict := none, data := .set #[] 0 (.fresh 0 0 (!wo.params.followText "set-order")) }).objs.size := by
          rw [Heap.size_push]
          exact Nat.ne_of_lt (Nat.lt_succ_of_lt lS)
        have notF : t.heap.objs.size ∉ [(t.heap.push { cls := .type "set", dict := none, data := .set #[] 0 (.fresh 0 0 (!wo.params.followText "set-order")) }).objs.size, l] := by
          rw [Heap.size_push]
          simp only [List.mem_cons, List.not_mem_nil, or_false, not_or]
          exact ⟨Nat.ne_of_lt (Nat.lt_succ_self _), Nat.ne_of_gt lS⟩
        have vals : ∀ (i : Nat) (v : Value), its[i]? = some v → ∃ k u, ns[i]? = some k ∧ v = .int k u := fun i v hv => by
          have hi : i < ns.length := by
            rw [← len]
            exact (Array.getElem?_eq_some_iff.mp hv).1
          obtain ⟨u, e⟩ := PyProof.Rows.IntsAre.int_at intsA i v (by rw [Array.getElem?_toList]; exact hv)
          refine ⟨ns[i], u, List.getElem?_eq_getElem hi, ?_⟩
          rw [e, List.getD_eq_getElem?_getD, List.getElem?_eq_getElem hi] <;> rfl
        refine set_update_ints ((Walks.list calm3 _ l neI its).toS) t.heap.objs.size notF ns len few vals (its.size - 0) 0 _ (by omega) (Nat.zero_le _) ⟨⟨_, Heap.get?_push_size _ rfl, rfl, rfl⟩, (isl2.push _)⟩ ?first ?last
        case first =>
          exact ⟨0, Nat.le_refl 0, setR_new_at (Heap.get?_push_of_some _ hS)⟩
        case last =>
          intro t3 c3 mv hc3 hS3
          obtain ⟨hN, g3, d3, k3, os3⟩ := t3
          obtain rfl : g3 = t.gens := mv.gens
          obtain rfl : d3 = t.drawn := mv.drawn
          obtain rfl : os3 = t.os := mv.os
          show wpAny _ _ _ _ _ _
          refine wpAny_pure ?_
          show wpAny _ _ (ret Value.none) _ _ _
          rw [len] at hc3
          refine wpAny_pure ⟨rfl, hN, k3, c3, rfl, hS3, hc3, fun b ob e => ?_⟩
          have b0 : b < t.heap.objs.size := Heap.lt_size e
          have b2 : b ≠ (t.heap.push { cls := .type "set", dict := none, data := .set #[] 0 (.fresh 0 0 (!wo.params.followText "set-order")) }).objs.size := by
            rw [Heap.size_push]
            exact Nat.ne_of_lt (Nat.lt_succ_of_lt b0)
          exact mv.heap b ob (by simp only [List.mem_cons, List.not_mem_nil, or_false, not_or]; exact ⟨Nat.ne_of_lt b0, b2⟩) (Heap.get?_push_of_some _ (Heap.get?_push_of_some _ e))
      · cases r2 with
        | error e => exact hr2
        | ok fl2 =>
          cases fl2 with
          | ret r =>
            obtain ⟨rfl, hN, k, c2, rfl, hS2, hc2, hk2⟩ := hr2
            repeat (any_goals (first | assumption | wp_step))
            exact goal _ _ _ hS2 hc2 hk2
          | _ => exact hr2.elim
    | _ => exact hr.elim
end
/-- set(l), l a list of ints -/
def rSetI (K : PySem.W.Frag) (w : World) : List V → Hp → VK → Prop := fun vs H Q => ∃ (a : Addr) (ns : List Int), vs = [V.ref a] ∧ SqL K H a (ns.map V.int) ∧ ns.length + 1 < scanBound ∧ ∀ p c, H p = none → c ≤ ns.length → Q (.ref p) (upd H p (SetO w p (fun j => decide (j ∈ ns)) c))
theorem call_setI {X : Cx} (hc : X.calm = true) : CallR X (.type "set") (rSetI X.K X.w) := by
  intro pins s σ H vs us Q I r h
  obtain ⟨a, ns, rfl, hl, few, q⟩ := h
  rw [Vals.ref1 r]
  obtain ⟨its, rv, pl, _⟩ := I.list hl
  refine set_of_list ns (I.ok.hd hc) pl.isList (by rw [List.toList_toArray]; exact intsAre_of rv) few fun hN k c new hcl keep => ?_
  exact ⟨.ref _, upd H s.heap.objs.size (SetO X.w s.heap.objs.size (fun j => decide (j ∈ ns)) c), I.laid (t' := k) keep (Nat.le_refl _) (setO_new new), rfl, q _ c (I.hok.fresh (Nat.le_refl _)) hcl⟩
end CL

namespace CS
open PySem PySem.Spec PyProof.Rows L2
/-! ### more rules beside the layer's -/
section
variable {X : Cx}
/-- o.f as a target -/
def gFld (K : PySem.W.Frag) (to : TE) (f : Str) : TG := fun v σ H Q => to σ H fun x H1 => ∃ a C dx fs, x = .ref a ∧ H1 a = some (.ins C dx fs) ∧ Cls K C ∧ NoAttr K C f ∧ fs.length < 1000 ∧ Q σ (upd H1 a (.ins C dx (putF f v fs)))
theorem pg_fld {o : Expr} {f : Str} {pos : Pos} {to : TE} (ho : PE X o to) : PG X (.Attribute o f pos) (gFld X.K to f) := by
  refine ⟨fun pins s σ H v u Q I r h => ?_⟩
  rw [assign_Attribute]
  refine wpAny_bind (wpAny_holding (thn (ho.run pins s σ H _ I h) fun ov s1 ⟨x, H1, I1, r1, a, C, dx, fs, ex, ea, c, n, l, q⟩ => ?_))
  subst ex
  obtain rfl : ov = Value.ref a := r1
  refine wpAny_bind (wpAny_standAt (wpAny_bind (wpAny_holding (setattr_ok I1 ea c n l r fun s3 I3 => ?_))))
  exact wpAny_release ⟨σ, _, I3, q⟩
theorem pe_fldK {e : Expr} {f : Str} {pos : Pos} {ta : TE} (K : PySem.W.Frag) (hk : X.K = K) (he : PE X e ta) (hb : attributeBase e f X.env (eval e X.env) = eval e X.env) : PE X (.Attribute e f pos) (tFld K ta f) := by
  subst hk
  exact pe_fld he hb
def rLenQ (K : PySem.W.Frag) : List V → Hp → VK → Prop := fun xs H Q => ∃ p ys, xs = [.ref p] ∧ (SqL K H p ys ∨ SqT K H p ys) ∧ Q (.int ys.length) H
def rListQ (K : PySem.W.Frag) : List V → Hp → VK → Prop := fun xs H Q => ∃ p ys, xs = [.ref p] ∧ (SqL K H p ys ∨ SqT K H p ys) ∧ ∀ l, H l = none → Q (.ref l) (upd H l (.lst ys))
def rTupleQ (K : PySem.W.Frag) : List V → Hp → VK → Prop := fun xs H Q => ∃ p ys, xs = [.ref p] ∧ ((SqL K H p ys ∧ ∀ l, H l = none → Q (.ref l) (upd H l (.tup ys))) ∨ (SqT K H p ys ∧ Q (.ref p) H))
/-- // by a divisor of either sign -/
def CDivNW (_ j : Int) : Prop := j ≠ 0 ∧ j.natAbs.log2 < 9000
theorem op_fdivNW : OpR X (binaryOp .FloorDiv) (rI CDivNW fun i j => .int (i.fdiv j)) := opI fun _ _ _ _ _ _ _ hc q => floordiv_int hc.1 q (.inl (PyProof.noPylong_of_log2 hc.2))
theorem wide_divN {i j : Int} {b : Nat} (h : j ≠ 0) (hb : j.natAbs < 2 ^ b) (h0 : 0 < b) (h9 : b ≤ 9000) : CDivNW i j := ⟨h, Nat.lt_of_lt_of_le (PySem.Flt.log2_lt_of h0 hb) h9⟩
theorem kit_self {K : PySem.W.Frag} {C : Addr} : PySem.W.kitOne K (.ref C) (.ref C) = some true := by
  unfold PySem.W.kitOne
  rw [if_pos (by simp)]
theorem pe_revLK {e : Expr} {te : TE} {k : Nat} {p1 p2 p3 pos : Pos} (K : PySem.W.Frag) (hk : X.K = K) (he : PE X e te) : PE X (.Subscript e (.Slice none none (some (.UnaryOp .USub (.Constant (.int 1) k p1) p2)) p3) pos) (tRevL K te) := by
  subst hk
  exact pe_revL he
/-- x in s, a list or a tuple of data -/
def rInQ (K : PySem.W.Frag) : R2 := fun x y H Q => ∃ d ds, Dp K H x d ∧ (Dp K H y (.list ds) ∨ Dp K H y (.tuple ds)) ∧ SeqAt.shaped d = true ∧ SeqAt.shaped (.list ds) = true ∧ Q (.bl (ds.any fun z => PyData.eqv z d)) H
def rNotInQ (K : PySem.W.Frag) : R2 := fun x y H Q => ∃ d ds, Dp K H x d ∧ (Dp K H y (.list ds) ∨ Dp K H y (.tuple ds)) ∧ SeqAt.shaped d = true ∧ SeqAt.shaped (.list ds) = true ∧ Q (.bl (!ds.any fun z => PyData.eqv z d)) H
theorem op_inQ (hu : X.A.units + 65 < cLine) : OpR X (compareOp .In) (rInQ X.K) := by
  intro pins s σ H x y v u Q I rx ry h
  obtain ⟨d, ds, hd, he, sd, se, q⟩ := h
  obtain ⟨as, r1⟩ := Dp.reads I d x v hd rx
  rcases he with he | he
  · obtain ⟨bs, r2⟩ := Dp.reads I (.list ds) y u he ry
    exact SeqAt.in_list_reads r2 r1 (SeqAt.canLay_of_shaped se) (SeqAt.canLay_of_shaped sd) (room_in_shaped sd hu) ⟨.bl _, H, I, rfl, q⟩
  · obtain ⟨bs, r2⟩ := Dp.reads I (.tuple ds) y u he ry
    exact SeqAt.in_tuple_reads r2 r1 (SeqAt.canLay_of_shaped se) (SeqAt.canLay_of_shaped sd) (room_in_shaped sd hu) ⟨.bl _, H, I, rfl, q⟩
theorem op_notInQ (hu : X.A.units + 65 < cLine) : OpR X (compareOp .NotIn) (rNotInQ X.K) := by
  intro pins s σ H x y v u Q I rx ry h
  obtain ⟨d, ds, hd, he, sd, se, q⟩ := h
  obtain ⟨as, r1⟩ := Dp.reads I d x v hd rx
  rcases he with he | he
  · obtain ⟨bs, r2⟩ := Dp.reads I (.list ds) y u he ry
    exact SeqAt.notIn_list_reads r2 r1 (SeqAt.canLay_of_shaped se) (SeqAt.canLay_of_shaped sd) (room_in_shaped sd hu) ⟨.bl _, H, I, rfl, q⟩
  · obtain ⟨bs, r2⟩ := Dp.reads I (.tuple ds) y u he ry
    exact SeqAt.notIn_tuple_reads r2 r1 (SeqAt.canLay_of_shaped se) (SeqAt.canLay_of_shaped sd) (room_in_shaped sd hu) ⟨.bl _, H, I, rfl, q⟩
end
end CS

-- dictcomps
namespace CD
open PySem PySem.Spec PyProof.Rows L2
/-- d[key] = v where the key is a tuple, within a comprehension -/
theorem putT {X : Cx} {pins : List (Addr × Obj)} {σ : L2.St} {H : Hp} {s : Shared} {E : Value → Shared → Prop} {D b : Addr} {kvs : List (List L2.Key × V)} {k : List L2.Key} {v : V} {r : Value} {Q : Unit → Shared → Prop} (hu : X.A.units + 1 < cLine)
    (I : Inv X pins σ H s) (hD : H D = some (.dT kvs)) (hz : kvs.length < sizeLine) (hb : H b = some (.tup (k.map kV))) (rv : RelV v r) (h : ∀ s2, Inv X pins σ (upd H D (.dT (putK kvs k v))) s2 → Q () s2) : wpAny (model X.prog X.w) X.A (dictSet D (.ref b) r) Q E s := by
  obtain ⟨z, hd, xs, rel, dd⟩ := dt_of I.hok hD
  have l1 : xs.length ≤ sizeLine := Paired.length rel ▸ z
  have l2 : (putK kvs k v).length ≤ sizeLine := Nat.le_trans (length_putK kvs k v) hz
  have hroom : (tupleKind (mixKind X.prog X.w)).room X.A := Nat.lt_of_succ_lt hu
  refine wpAny_dictSet_heap (hsz := l1) hroom (key_of I.hok hb) dd fun g dg sb => h _ ?_
  obtain ⟨q, es, ep, hq, c2, c3, c4, _, c5⟩ := dg
  refine d_write I (by rw [hD]; exact True.intro) sb ⟨q, hq⟩ ⟨l2, hd, _, (rel.put k hb rv).keeps (fun c ys ec => ?_), q, es, ep, hq, c2, c3, c4, c5⟩
  rw [upd_ne (ne_of ec hD (fun z => nomatch z))]
  exact ec
section
variable {X : Cx}
/-- {k: v for target in iter if ..} where the keys are tuples -/
def tDcT (wi : TI) (g : TG) (tt : TT) (tk tv : TE) (vs : List Nat) : TE := fun σ H Q => wi σ H fun J H1 => ∀ D, H1 D = none → ∃ W : Nat → Nat → Hp → Prop, (∃ m, W 0 m (upd H1 D (.dT []))) ∧ ∀ i m H, W i m H →
  (J.stop i H ∧ Q (.ref D) H) ∨ (J.go i H ∧ ∃ Nx : Hp → Prop, (∀ H', Nx H' → ∃ m', m' < m ∧ W (i + 1) m' H') ∧ ∀ x H', J.yld i H x H' → g x (wipe σ vs) H' fun σ2 H2 => wipe σ2 vs = wipe σ vs ∧ tt σ2 H2 fun b H3 =>
    if b = true then tk σ2 H3 fun y H4 => tv σ2 H4 fun z H5 => ∃ kvs k b, y = .ref b ∧ H5 b = some (.tup (k.map kV)) ∧ H5 D = some (.dT kvs) ∧ kvs.length < sizeLine ∧ Nx (upd H5 D (.dT (putK kvs k z))) else Nx H3)
theorem dcT_run {pins : List (Addr × Obj)} {s : Shared} {σ : L2.St} {H : Hp} {Q : VK} {kx vx tg iter : Expr} {ifs : List Expr} {scope : Scope} {own : List (Str × Nat)} {pos pos' : Pos} {wi : TI} {g : TG} {tt : TT} {tk tv : TE} {use : Option (Value → Sem Unit)} {Qf : Value → Shared → Prop}
    (hu : X.A.units + 1 < cLine) (calm : X.calm = true) (nod : X.N.Nodup) (I : Inv X pins σ H s) (hi : PI X tg iter wi) (ok : BlkOk X.N X.env.scope scope own)
    (gg : ∀ (s : Shared) (H : Hp) (C : Addr) (cl : List (Str × Addr)) (fp : List Addr), PG (X.blk s H scope (compEnvC scope cl C X.env) fp) tg g)
    (gt : ∀ (s : Shared) (H : Hp) (C : Addr) (cl : List (Str × Addr)) (fp : List Addr), PTs (X.blk s H scope (compEnvC scope cl C X.env) fp) ifs tt)
    (gk : ∀ (s : Shared) (H : Hp) (C : Addr) (cl : List (Str × Addr)) (fp : List Addr), PE (X.blk s H scope (compEnvC scope cl C X.env) fp) kx tk)
    (gv : ∀ (s : Shared) (H : Hp) (C : Addr) (cl : List (Str × Addr)) (fp : List Addr), PE (X.blk s H scope (compEnvC scope cl C X.env) fp) vx tv) (fold : ∀ x, foldedSetIterable iter X.env x = pure x)
    (h : tDcT wi g tt tk tv (own.map (·.2)) σ H Q)
    (post : ∀ D C s' m H', Inv X pins σ H' s' → Q (.ref D) H' → s'.heap.Ns C m → FpOk X pins H' C → compPost (model X.prog X.w) X.A X.xe use Qf (.ref D) C (.ok .next) s') :
    wpAny (model X.prog X.w) X.A (comprehension (.DictComp kx vx [⟨tg, iter, ifs, 0⟩] scope pos) scope X.env pos' newDict false (eval iter X.env) use) Qf X.xe s := by
  have hasC : ∀ y ∈ scope.names, y.2 = .free → ∃ c, X.env.cells.lookup y.1 = some c := fun y hy e => I.ok.has _ (ok.free y hy e)
  refine wpAny_comprehension_free (use := use) rfl fold (closure_ok hasC) ok.kind (fun y hy e => by rw [ok.uniq y hy, e]) (thn (hi.run pins s σ H _ I h) fun xv s1 hx => thn hx fun itv s2 h2 => ?_)
  obtain ⟨it, fp, tn, J, H2, rfl, I2, T, at2, free2, q⟩ := h2
  refine wpAny_newObj_type (newEnv_comp ?_)
  generalize eD : s2.heap.objs.size = D
  have newD : H2 D = none := I2.hok.fresh (Nat.le_of_eq eD)
  obtain ⟨W, ⟨m0, w0⟩, turn⟩ := q D newD
  generalize es3 : ({ s2 with heap := s2.heap.push { cls := .type "dict", data := .dict #[] } } : Shared) = s3
  have hp3 : s3.heap = s2.heap.push { cls := .type "dict", data := .dict #[] } := by rw [← es3]
  generalize eH3 : upd H2 D (.dT []) = H3
  have I3 : Inv X pins σ H3 s3 := by
    subst es3 eH3
    refine I2.laid (t' := s2.toks) (fun b o e => Heap.get?_push_of_some _ e) (Nat.le_of_eq eD) ?_
    subst eD
    exact dt_empty s2.heap I2.big
  have low : ∀ b ∈ fp, b < s2.heap.objs.size := fun b hb => let ⟨_, e, _⟩ := T.obj _ _ at2 b hb; Heap.lt_size e
  have free3 : ∀ b ∈ fp, FpOk X pins H3 b ∧ b < s3.heap.objs.size := fun b hb => by
    have lt := low b hb
    refine ⟨⟨?_, (free2 b hb).2⟩, by rw [hp3, Heap.size_push]; exact Nat.lt_succ_of_lt lt⟩
    rw [← eH3, upd_ne (by rw [← eD]; exact Nat.ne_of_lt lt)]
    exact (free2 b hb).1
  have at3 : tn 0 s3.heap := T.keep _ _ _ at2 fun b _ o e => hp3 ▸ Heap.get?_push_of_some _ e
  have I4 := block_start I3 ok nod free3
  generalize eC : s3.heap.objs.size = C at I4
  generalize ecl : cellsFrom (C + 1) scope.names (cloFrom X.env.cells scope.names []) = cl at I4
  have pg := gg s3 H3 C cl fp
  have pt := gt s3 H3 C cl fp
  have pk := gk s3 H3 C cl fp
  have pv := gv s3 H3 C cl fp
  have none3 : ∀ b ∈ fp, H3 b = none := fun b hb => (free3 b hb).1.1
  subst ecl eC
  generalize ece : compEnvC scope (cellsFrom (s3.heap.objs.size + 1) scope.names (cloFrom X.env.cells scope.names [])) s3.heap.objs.size X.env = ce at I4 pg pt pk pv
  have loc : ce.locals = s3.heap.objs.size := by subst ece; rfl
  generalize es4 : ({ s3 with heap := pushCells (s3.heap.push { cls := .type "dict", data := .dict #[] }) scope.names } : Shared) = s4 at I4
  have at4 : tn 0 s4.heap := T.keep _ _ _ at3 fun b _ o e => es4 ▸ pushCells_keeps _ _ _ _ (Heap.get?_push_of_some _ e)
  have wEq : W 0 m0 H3 := eH3 ▸ w0
  have quiet : ∀ {τ : L2.St} {G : Hp} {t : Shared}, Inv (X.blk s3 H3 scope ce fp) [] τ G t → (∀ b ∈ fp, G b = none) → ∀ b ∈ fp, FpOk (X.blk s3 H3 scope ce fp) [] G b := fun {τ G t} J hn b hb =>
    ⟨hn b hb, (J.ok.exf b hb).1, J.ok.exfs b hb, .inl hb, (J.ok.exf b hb).2, fun p hp => absurd (show p ∈ ([] : List (Addr × Obj)) ++ [] from hp) (by simp)⟩
  have run : codeAny (model X.prog X.w) X.A (.compLoop (.DictComp kx vx [⟨tg, iter, ifs, 0⟩] scope pos) 0 (.ref it) (.ref D) ce) (compPost (model X.prog X.w) X.A X.xe use Qf (.ref D) s3.heap.objs.size) s4 := by
    refine compLoop_anyD (fun n t => ∃ i G, Inv (X.blk s3 H3 scope ce fp) [] (wipe σ (own.map (·.2))) G t ∧ tn i t.heap ∧ (∀ b ∈ fp, G b = none) ∧ W i n G) ?_ m0 ⟨0, H3, I4, at4, none3, wEq⟩
    rintro n t5 ⟨i, G5, I5, at5, n5, w5⟩
    rcases turn i n G5 w5 with ⟨stop, qq⟩ | ⟨go, Nx, hNx, step⟩
    · refine thnF (T.done (X.blk s3 H3 scope ce fp) rfl rfl rfl calm i [] t5 _ G5 (fun _ _ => False) I5 (quiet I5 n5) at5 stop) fun r t6 ⟨er, I6⟩ => ?_
      subst er
      have I7 : Inv X pins σ G5 t6 := I3.call' (ch := fp) I6.os I6.base I6.hok I6.bare fun b hb => let z := (free3 b hb).1.2; ⟨z.2.2.1, z.1, z.2.2.2.1, z.2.2.2.2⟩
      have nC : G5 s3.heap.objs.size = none := loc ▸ (show G5 ce.locals = none from I6.free)
      obtain ⟨m, hn, _⟩ := I6.loc
      replace hn : t6.heap.Ns s3.heap.objs.size m := loc ▸ (show t6.heap.Ns ce.locals m from hn)
      exact post D s3.heap.objs.size t6 m G5 I7 qq hn (I3.fpOk (Nat.le_refl _) nC)
    · refine thnF (T.item (X.blk s3 H3 scope ce fp) rfl rfl rfl calm i [] t5 _ G5 (fun _ _ => False) I5 (quiet I5 n5) at5 go) fun r t6 ⟨u, er, h6⟩ => ?_
      subst er
      refine thnF h6 fun _ t7 ⟨x, G7, I7, r7, y7, at7, n7⟩ => ?_
      refine thnF (pg.run _ t7 _ G7 x u _ (I7.pinned (quiet I7 n7) (T.obj _ _ at7)) r7 (step x G7 y7)) fun _ t8 ⟨σ8, G8, I8, hw, q8⟩ => ?_
      refine thnF (pt.run _ t8 σ8 G8 _ I8 q8) fun b t9 ⟨G9, I9, q9⟩ => ?_
      have fin : ∀ {t : Shared} {G : Hp}, Inv (X.blk s3 H3 scope ce fp) ([] ++ pinsAt fp t7.heap) σ8 G t → Nx G → ∃ m, m < n ∧ ∃ j G2, Inv (X.blk s3 H3 scope ce fp) [] (wipe σ (own.map (·.2))) G2 t ∧ tn j t.heap ∧ (∀ b ∈ fp, G2 b = none) ∧ W j m G2 := fun {t G} IG nx => by
        obtain ⟨m2, lt, w2⟩ := hNx G nx
        have stay : ∀ b ∈ fp, ∀ o, t7.heap.get? b = some o → t.heap.get? b = some o ∧ G b = none := fun b hb o e => ⟨(IG.pin (b, o) (List.mem_append_right _ (List.mem_append_right _ (mem_pinsAt hb e)))).1, (IG.pin (b, o) (List.mem_append_right _ (List.mem_append_right _ (mem_pinsAt hb e)))).2.1⟩
        have len : (wipe σ (own.map (·.2))).length = σ8.length := by rw [← hw, wipe_length]
        refine ⟨m2, lt, i + 1, G, (IG.unpinned (pins := [])).weak len (fun j v e => (wipe_some (hw ▸ e)).1), T.keep _ _ _ at7 fun b hb o e => (stay b hb o e).1, fun b hb => ?_, w2⟩
        obtain ⟨o, e, _⟩ := T.obj _ _ at7 b hb
        exact (stay b hb o e).2
      cases b with
      | false =>
        rw [if_neg Bool.false_ne_true] at q9 ⊢
        exact fin I9 q9
      | true =>
        rw [if_pos rfl] at q9 ⊢
        refine thnF (pk.run _ t9 σ8 G9 _ I9 q9) fun z ta ⟨yk, Ga, Ia, ra, qa⟩ => ?_
        refine thnF (pv.run _ ta σ8 Ga _ Ia qa) fun z2 tb ⟨yv, Gb, Ib, rb, kvs, k, bb, ek, hbb, hDb, hz, nx⟩ => ?_
        subst ek
        cases (show z = Value.ref bb from ra)
        exact putT (X := X.blk s3 H3 scope ce fp) hu Ib hDb hz hbb rb fun tc Ic => fin Ic nx
  subst ece
  exact codeAny_compStart_dict run (T.self X.A 0 _ _ _ at4 run)
theorem pe_dcT {kx vx tg iter : Expr} {ifs : List Expr} {scope : Scope} {own : List (Str × Nat)} {pos : Pos} {wi : TI} {g : TG} {tt : TT} {tk tv : TE} (hu : X.A.units + 1 < cLine) (calm : X.calm = true) (nod : X.N.Nodup) (hi : PI X tg iter wi) (ok : BlkOk X.N X.env.scope scope own)
    (gg : ∀ (s : Shared) (H : Hp) (C : Addr) (cl : List (Str × Addr)) (fp : List Addr), PG (X.blk s H scope (compEnvC scope cl C X.env) fp) tg g)
    (gt : ∀ (s : Shared) (H : Hp) (C : Addr) (cl : List (Str × Addr)) (fp : List Addr), PTs (X.blk s H scope (compEnvC scope cl C X.env) fp) ifs tt)
    (gk : ∀ (s : Shared) (H : Hp) (C : Addr) (cl : List (Str × Addr)) (fp : List Addr), PE (X.blk s H scope (compEnvC scope cl C X.env) fp) kx tk)
    (gv : ∀ (s : Shared) (H : Hp) (C : Addr) (cl : List (Str × Addr)) (fp : List Addr), PE (X.blk s H scope (compEnvC scope cl C X.env) fp) vx tv) (fold : ∀ x, foldedSetIterable iter X.env x = pure x := by intro _; rfl) :
    PE X (.DictComp kx vx [⟨tg, iter, ifs, 0⟩] scope pos) (tDcT wi g tt tk tv (own.map (·.2))) := by
  refine ⟨fun pins s σ H Q I h => ?_⟩
  rw [arm_eval_DictComp]
  refine dcT_run hu calm nod I hi ok gg gt gk gv fold h fun D C t m G IG q hn f => ⟨m, hn, fun g2 sb => ?_⟩
  exact ⟨.ref D, G, IG.turned (t' := t.toks) (fun b o hb e => (sb.2 b hb).trans e) f.1 f.2.1 f.2.2.2.1 f.2.2.2.2.1 f.2.2.2.2.2, rfl, q⟩
end
/-- over anything that is walked: the keys and values are known from the start -/
theorem dcT_it {J : It} {n : Nat} {G : Hp → Prop} {Y : Nat → Hp → V → Hp → Prop} (w : Walk J n G Y) {g : TG} {tt : TT} {tk tv : TE} {vs : List Nat} {σ : L2.St} {H1 : Hp} {D : Addr} {Qd : Hp → Prop} (Pv : Nat → Hp → Prop) (h0 : Pv 0 (upd H1 D (.dT []))) (hl : ∀ i H, i ≤ n → Pv i H → G H)
    (hs : ∀ i x H H2, i < n → Pv i H → Y i H x H2 → g x (wipe σ vs) H2 fun σ2 H3 => wipe σ2 vs = wipe σ vs ∧ tt σ2 H3 fun b H4 =>
      if b = true then tk σ2 H4 fun y H5 => tv σ2 H5 fun z H6 => ∃ kvs k b, y = .ref b ∧ H6 b = some (.tup (k.map kV)) ∧ H6 D = some (.dT kvs) ∧ kvs.length < sizeLine ∧ Pv (i + 1) (upd H6 D (.dT (putK kvs k z))) else Pv (i + 1) H4)
    (hd : ∀ H, Pv n H → Qd H) :
    ∃ W : Nat → Nat → Hp → Prop, (∃ m, W 0 m (upd H1 D (.dT []))) ∧ ∀ i m H, W i m H →
      (J.stop i H ∧ Qd H) ∨ (J.go i H ∧ ∃ Nx : Hp → Prop, (∀ H', Nx H' → ∃ m', m' < m ∧ W (i + 1) m' H') ∧ ∀ x H', J.yld i H x H' → g x (wipe σ vs) H' fun σ2 H2 => wipe σ2 vs = wipe σ vs ∧ tt σ2 H2 fun b H3 =>
        if b = true then tk σ2 H3 fun y H4 => tv σ2 H4 fun z H5 => ∃ kvs k b, y = .ref b ∧ H5 b = some (.tup (k.map kV)) ∧ H5 D = some (.dT kvs) ∧ kvs.length < sizeLine ∧ Nx (upd H5 D (.dT (putK kvs k z))) else Nx H3) := by
  refine ⟨fun i m H => m = n - i ∧ i ≤ n ∧ Pv i H, ⟨n, rfl, Nat.zero_le _, h0⟩, ?_⟩
  rintro i m H ⟨rfl, hi, p⟩
  have q := hl i H hi p
  by_cases c : i < n
  · exact .inr ⟨w.goes i H c q, Pv (i + 1), fun H2 p2 => ⟨n - (i + 1), by omega, rfl, c, p2⟩, fun x H2 y => hs i x H H2 c p (w.yields i H x H2 c q y)⟩
  · obtain rfl : i = n := by omega
    exact .inl ⟨w.stops H q, hd H p⟩
/-- kvs with the pairs of more put in -/
def mergeT (kvs more : List (List L2.Key × V)) : List (List L2.Key × V) := more.foldl (fun acc p => putK acc p.1 p.2) kvs
theorem mergeT_len (kvs : List (List L2.Key × V)) : ∀ more : List (List L2.Key × V), (mergeT kvs more).length ≤ kvs.length + more.length := fun more => by
  induction more generalizing kvs with
  | nil => exact Nat.le_refl _
  | cons p r ih =>
    have a := ih (putK kvs p.1 p.2)
    have b := length_putK kvs p.1 p.2
    simp only [mergeT, List.foldl_cons, List.length_cons] at *
    omega
theorem KT.merge {H : Hp} : ∀ {more : List (List L2.Key × V)} {ys : List (List L2.Key × Addr × Value)} {kvs : List (List L2.Key × V)} {xs : List (List L2.Key × Addr × Value)}, KT H more ys → KT H kvs xs → KT H (mergeT kvs more) (storedAllH xs ys)
  | _, _, _, _, .nil, h => h
  | (k, v) :: _, (k2, b, u) :: _, kvs, xs, .cons ⟨e, hb, rv⟩ t, h => by
    obtain rfl : k = k2 := e
    exact KT.merge (kvs := putK kvs k v) (xs := storedH xs k b u) t (h.put k hb rv)
section
variable {X : Cx}
/-- d.update(e), both keyed by tuples -/
def rUpdT : V → List V → Hp → VK → Prop := fun x xs H Q => ∃ (a b : Addr) (kvs more : List (List L2.Key × V)), x = .ref a ∧ xs = [.ref b] ∧ a ≠ b ∧ H a = some (.dT kvs) ∧ H b = some (.dT more) ∧ (kvs ≠ [] ∨ more = []) ∧ kvs.length + more.length ≤ sizeLine ∧ Q .non (upd H a (.dT (mergeT kvs more)))
theorem mt_updT (hu : X.A.units + 1 < cLine) : MtR X "dict.update" rUpdT := by
  intro pins s σ H x xs v us Q I rx rxs h
  obtain ⟨a, b, kvs, more, rfl, rfl, ne, ha, hb, nn, le, q⟩ := h
  cases rx
  cases rxs with
  | cons r1 r2 =>
    cases r1
    cases r2
    obtain ⟨z, hd, xs1, rel, dd⟩ := dt_of I.hok ha
    obtain ⟨z2, hd2, xs2, rel2, dd2⟩ := dt_of I.hok hb
    have l1 : kvs.length = xs1.length := Paired.length rel
    have l2 : more.length = xs2.length := Paired.length rel2
    refine call_update_dictH (tupleKind_room_in1 hu) ne hd2 dd dd2 (nn.imp (fun nn e => nn (List.length_eq_zero_iff.mp (by rw [l1, e]; rfl))) fun e => (by
      have e2 : xs2 = [] := List.length_eq_zero_iff.mp (by rw [← l2, e]; rfl)
      rw [e2]
      exact ⟨(fun x hx => by cases hx), .nil⟩)) (by omega) fun h' dd' _ hs => ?_
    obtain ⟨o, es, ep, hq, h2, h3, h4, _, h5⟩ := dd'
    refine ⟨.non, _, d_write (ob := .dT (mergeT kvs more)) (t' := s.toks) I (by rw [ha]; exact True.intro) hs ⟨o, hq⟩ ⟨Nat.le_trans (mergeT_len kvs more) le, hd, _, (KT.merge rel2 rel).keeps (fun c ys ec => (by rw [upd_ne (ne_of ec ha (fun z => nomatch z))]; exact ec)), o, es, ep, hq, h2, h3, h4, h5⟩, rfl, q⟩
end
end CD

namespace CD
open PySem PySem.Spec PyProof.Rows L2
/-- the view d.values() -/
def valsO (p d : Addr) : HO := .ext fun h => h.IsValuesView p d
theorem DTpget {α β : Type} {F : α → β → Prop} : ∀ {l₁ : List α} {l₂ : List β} {j : Nat} {x : β}, Paired F l₁ l₂ → l₂[j]? = some x → ∃ y, l₁[j]? = some y ∧ F y x
  | _, _, _, _, .nil, h => by simp at h
  | _, _, 0, _, .cons r _, h => ⟨_, rfl, by obtain rfl := Option.some.inj h; exact r⟩
  | _, _, j + 1, _, .cons _ t, h => DTpget (j := j) t h
section
variable {X : Cx}
def rValuesT : V → List V → Hp → VK → Prop := fun x xs H Q => ∃ (a : Addr) (kvs : List (List L2.Key × V)), x = .ref a ∧ xs = [] ∧ H a = some (.dT kvs) ∧ ∀ p, H p = none → Q (.ref p) (upd H p (valsO p a))
theorem mt_valuesT : MtR X "dict.values" rValuesT := by
  intro pins s σ H x xs v us Q I rx rxs h
  obtain ⟨a, kvs, rfl, rfl, ha, q⟩ := h
  cases rx
  cases rxs
  obtain ⟨z, hd, ys, rel, o, es, ep, ho, hx, hdat, _⟩ := dt_of I.hok ha
  have raw : s.heap.DictRaw a es ep := ⟨o, ho, hx, hdat⟩
  refine call_meetsIn PySem.F.slot_dict_values raw.typeIs PySem.F.entry_dict_values (PySem.F.args_dict_values_1 _) (meets_dict_values_raw a hd) ⟨⟨es, ep, raw⟩, ?_⟩
  have new : ObjOk X.prog X.w (upd H s.heap.objs.size (valsO s.heap.objs.size a)) (s.heap.push { cls := .type "dict_values", data := .fields #[.ref a] }) s.heap.objs.size (valsO s.heap.objs.size a) :=
    ⟨⟨_, Heap.get?_push_size _ rfl, rfl, rfl⟩, ⟨_, Heap.get?_push_size _ rfl⟩, fun h1 h2 y k => let ⟨u, hu, r⟩ := y; ⟨u, k u hu, r⟩⟩
  exact ⟨.ref s.heap.objs.size, _, I.laid (t' := s.toks) (fun b u e => Heap.get?_push_of_some _ e) (Nat.le_refl _) new, rfl, q _ (I.hok.fresh (Nat.le_refl _))⟩
/-- max(d.values()), whole numbers -/
def rMaxT : List V → Hp → VK → Prop := fun xs H Q => ∃ (p a : Addr) (kvs : List (List L2.Key × V)) (is : List Int), xs = [.ref p] ∧ H p = some (valsO p a) ∧ H a = some (.dT kvs) ∧ kvs.map (·.2) = is.map V.int ∧ is ≠ [] ∧ ∀ m, m ∈ is → (∀ j ∈ is, j ≤ m) → Q (.int m) H
theorem cr_maxT (calm : X.calm = true) : CallR X (.builtin "max") rMaxT := by
  intro pins s σ H xs us Q I r h
  obtain ⟨p, a, kvs, is, rfl, hp, ha, hv, hne, q⟩ := h
  rw [Vals.ref1 r]
  obtain ⟨z, hd, ys, rel, o, es, ep, ho, hx, hdat, hes, _⟩ := dt_of I.hok ha
  have raw : s.heap.DictRaw a es ep := ⟨o, ho, hx, hdat⟩
  have view : s.heap.IsValuesView p a := (show ObjOk X.prog X.w H s.heap p (valsO p a) from I.hok p _ hp).1
  have l1 : es.size = ys.length := by rw [← Array.length_toList, hes, List.length_map]
  have l2 : kvs.length = ys.length := Paired.length rel
  have l3 : is.length = kvs.length := by
    have := congrArg List.length hv
    rw [List.length_map, List.length_map] at this
    exact this.symm
  have hval : ∀ (i : Nat) (v : Value), (∃ hi : i < es.size, v = es[i].val) → ∃ t, v = Value.int (is.getD i 0) t := fun i v ⟨hi, e⟩ => by
    subst e
    have iy : i < ys.length := by omega
    have e1 : es[i] = entryOfKey (tupleKind (mixKind X.prog X.w)) ys[i] := by
      have : es.toList[i]? = some es[i] := by rw [Array.getElem?_toList, Array.getElem?_eq_getElem hi]
      rw [hes, List.getElem?_map, List.getElem?_eq_getElem iy] at this
      exact (Option.some.inj this).symm
    obtain ⟨y, hy, f1, f2, f3⟩ := DTpget rel (List.getElem?_eq_getElem iy)
    have e2 : (kvs.map (·.2))[i]? = some y.2 := by rw [List.getElem?_map, hy]; rfl
    rw [hv, List.getElem?_map] at e2
    obtain ⟨j, hj, e3⟩ := Option.map_eq_some_iff.mp e2
    rw [← e3] at f3
    obtain ⟨t, f3⟩ := f3
    refine ⟨t, ?_⟩
    rw [e1, List.getD_eq_getElem?_getD, hj]
    exact f3
  refine call_max_walk (wpAny_pyIter_values_raw view raw ?_)
  generalize hI : s.heap.objs.size = it
  have al : a < s.heap.objs.size := Heap.lt_size ho
  generalize hh : s.heap.push { cls := .type "dict_valueiterator", data := .fields #[.ref a, .int 0 0, .int es.size 0, .int ep 0] } = h2
  have keep : ∀ b u, s.heap.get? b = some u → h2.get? b = some u := fun b u e => hh ▸ Heap.get?_push_of_some _ e
  have raw2 : h2.DictRaw a es ep := ⟨o, keep _ _ ho, hx, hdat⟩
  have at2 : h2.get? it = some { cls := .type "dict_valueiterator", data := .fields #[.ref a, .int 0 0, .int es.size 0, .int ep 0] } := by rw [← hh, ← hI]; exact Heap.get?_push_size _ rfl
  have sz2 : h2.objs.size = it + 1 := by rw [← hh, Heap.size_push, hI]
  have nea : a ≠ it := by rw [← hI]; exact Nat.ne_of_lt al
  refine ⟨it, _, _, _, _, _, _, rfl, Walks.rawValues (A := X.A.in1) (I.ok.hd calm) it a nea es ep, ⟨⟨_, at2, rfl, rfl⟩, raw2⟩, fun b hb => ?_, by have := List.length_pos_iff.mpr hne; omega, CmpOf.ints_gt (fun i => is.getD i 0) hval, fun v h3 tk hP hk => ?_⟩
  · show b < h2.objs.size
    rw [sz2]
    rcases List.mem_cons.mp hb with e | hb
    · rw [e]
      exact Nat.lt_succ_self _
    · rw [List.mem_singleton.mp hb, ← hI]
      exact Nat.lt_succ_of_lt al
  · obtain ⟨t, rfl⟩ := hval _ v hP
    obtain ⟨b1, b2⟩ := argBest_gt (fun i => is.getD i 0) (es.size - 1)
    have inb : argBest (fun i j => decide (is.getD i 0 > is.getD j 0)) (es.size - 1) < is.length := by
      have := List.length_pos_iff.mpr hne
      omega
    refine ⟨.int _, H, I.kept (t' := tk) fun b u e => hk b u (fun hm => ?_) (keep b u e), ⟨t, rfl⟩, q _ ?_ fun j hj => ?_⟩
    · have e1 : b = it := List.mem_singleton.mp hm
      have e2 := Heap.lt_size e
      rw [e1, hI] at e2
      exact absurd e2 (Nat.lt_irrefl _)
    · rw [List.getD_eq_getElem?_getD, List.getElem?_eq_getElem inb]
      exact List.getElem_mem inb
    · obtain ⟨i, hi⟩ := List.mem_iff_getElem?.mp hj
      have il := (List.getElem?_eq_some_iff.mp hi).1
      have := b2 i (by omega)
      rw [List.getD_eq_getElem?_getD, hi] at this
      exact this
end
end CD

namespace CD
open PySem PySem.Spec PyProof.Rows L2
/-- a slice's part that may be None -/
def tPartO (t : TE) : TO := fun σ H Q => t σ H fun x H1 => (x = .non ∧ Q none H1) ∨ ∃ i, x = .int i ∧ Q (some i) H1
theorem po_opt {X : Cx} {e : Expr} {te : TE} (h : PE X e te) : PO X (some e) (tPartO te) := by
  refine ⟨fun pins s σ H Q I hw => ?_⟩
  rw [evalPart_some]
  refine thn (h.run pins s σ H _ I hw) fun u s1 ⟨x, H1, I1, r1, q1⟩ => ?_
  rcases q1 with ⟨rfl, q⟩ | ⟨i, rfl, q⟩
  · obtain rfl : u = Value.none := r1
    exact ⟨none, H1, I1, .none, q⟩
  · obtain ⟨t, rfl⟩ := r1
    exact ⟨some i, H1, I1, .int i t, q⟩
end CD

namespace CD
open PySem PySem.Spec PyProof.Rows L2
/-! ### dict(xs) of a list of pairs whose keys are tuples -/
def PrT (H : Hp) (x : V) (kv : List L2.Key × V) : Prop := ∃ p b, x = V.ref p ∧ H p = some (.tup [.ref b, kv.2]) ∧ H b = some (.tup (kv.1.map kV))
section
variable {X : Cx}
def rDictT (K : PySem.W.Frag) : List V → Hp → VK → Prop := fun xs H Q => ∃ (a : Addr) (ps : List V) (kvs : List (List L2.Key × V)), xs = [.ref a] ∧ SqL K H a ps ∧ Paired (PrT H) ps kvs ∧ ∀ d, H d = none → Q (.ref d) (upd H d (.dT (mergeT [] kvs)))
theorem pairs_ofT {pins : List (Addr × Obj)} {σ : L2.St} {H : Hp} {s : Shared} (I : Inv X pins σ H s) : ∀ {ps : List V} {us : List Value} {kvs : List (List L2.Key × V)}, Paired (PrT H) ps kvs → Vals ps us →
    ∃ ys : List (List L2.Key × Addr × Value), KT H kvs ys ∧ ys.length = us.length ∧ ∀ (j : Nat) (y : List L2.Key × Addr × Value), ys[j]? = some y → ∃ p, us[j]? = some (Value.ref p) ∧ s.heap.IsTuple p #[.ref y.2.1, y.2.2]
  | _, _, _, .nil, r => by
    cases r
    exact ⟨[], .nil, rfl, fun j q e => by simp at e⟩
  | _, _, _, .cons (a := x) (b := kv) h t, r => by
    obtain ⟨p, b, rfl, hp, hb⟩ := h
    cases r with
    | cons r1 r2 =>
      cases r1
      obtain ⟨ys, rk, hl, hh⟩ := pairs_ofT I t r2
      obtain ⟨its, rv, ht, _⟩ := I.tuple (SqT.of hp)
      obtain ⟨u, y, ei, ru, ry⟩ := vals2 rv
      subst ei
      cases ru
      refine ⟨(kv.1, b, y) :: ys, .cons ⟨rfl, hb, ry⟩ rk, by rw [List.length_cons, List.length_cons, hl], fun j q e => ?_⟩
      cases j with
      | zero =>
        obtain rfl := Option.some.inj e
        obtain ⟨o, ho, hc, n, hd⟩ := ht
        exact ⟨p, rfl, o, ho, hc, n, hd⟩
      | succ j =>
        obtain ⟨p2, e1, e2⟩ := hh j q (by simpa using e)
        exact ⟨p2, by simpa using e1, e2⟩
theorem call_dictT (hcalm : X.calm = true) (hu : X.A.units + 65 < cLine) : CallR X (.type "dict") (rDictT X.K) := by
  intro pins s σ H xs us Q I r q
  obtain ⟨a, ps, kvs, rfl, hq, hp, q⟩ := q
  obtain ⟨u, rfl, rx⟩ := vals1 r
  cases rx
  obtain ⟨its, rv, pl, hz⟩ := I.list hq
  obtain ⟨ys, rk, hl, hpr⟩ := pairs_ofT I hp rv
  obtain ⟨o, n, ho, hc, hd, hdat⟩ := pl
  let Ts : Nat → Addr := fun j => match its[j]? with
    | some (.ref p) => p
    | _ => 0
  let prs : List (Value × Value) := ys.map fun y => (Value.ref y.2.1, y.2.2)
  have lp : prs.length = its.length := by simp [prs, hl]
  have hTs : ∀ {j : Nat} {p : Addr}, its[j]? = some (.ref p) → Ts j = p := fun {j p} e => by
    show (match its[j]? with | some (.ref p) => p | _ => 0) = p
    rw [e]
  have P := PairArg.list (prog := X.prog) (w := X.w) a its.toArray Ts prs
  have ok : PlainSeq "list" s.heap a its.toArray ∧ PairItems s.heap its.toArray Ts prs := by
    refine ⟨⟨o, n, ho, hc, hd, hdat⟩, by rw [List.size_toArray, lp], fun j k v e => ?_⟩
    have e2 : (ys.map fun y => (Value.ref y.2.1, y.2.2))[j]? = some (k, v) := e
    rw [List.getElem?_map] at e2
    obtain ⟨y, hy, ey⟩ := Option.map_eq_some_iff.mp e2
    obtain ⟨p, h1, h2⟩ := hpr j y hy
    obtain ⟨rfl, rfl⟩ := Prod.mk.inj ey
    rw [hTs h1]
    exact ⟨by simpa using h1, .inl h2⟩
  have hroom : (tupleKind (mixKind X.prog X.w)).room X.A.in1.in1 := by
    show X.A.units + 1 + 1 < cLine
    omega
  have keyed : ∀ x ∈ ys, (tupleKind (mixKind X.prog X.w)).is s.heap x.1 x.2.1 := by
    clear hpr P ok hl lp q hp
    intro x hx
    obtain ⟨i, hi⟩ := List.mem_iff_getElem?.mp hx
    induction rk generalizing i with
    | nil => cases hx
    | cons h t ih =>
      rcases List.mem_cons.mp hx with rfl | hx2
      · obtain ⟨h1, h2, _⟩ := h
        exact key_of I.hok (by rw [← h1]; exact h2)
      · obtain ⟨i2, hi2⟩ := List.mem_iff_getElem?.mp hx2
        exact ih hx2 i2 hi2
  refine call_dict_pairsH (knd := tupleKind (mixKind X.prog X.w)) (ps := ys) P (I.ok.hd hcalm) hroom ok ⟨by simp [prs], fun i key v e => ?_⟩ (fun h' hk x hx => ?_) (by rw [lp, ← rv.length]; exact hz) fun h' tk dd k => ?_
  · have e2 : (ys.map fun y => (Value.ref y.2.1, y.2.2))[i]? = some (key, v) := e
    rw [List.getElem?_map] at e2
    obtain ⟨⟨y1, y2, y3⟩, hy, ey⟩ := Option.map_eq_some_iff.mp e2
    obtain ⟨rfl, rfl⟩ := Prod.mk.inj ey
    exact ⟨y1, y2, hy, rfl⟩
  · exact tupleKind_stays.stays (fun b o vs n e _ => hk b o (Nat.ne_of_lt (Heap.lt_size e)) (by simp) e) (keyed x hx)
  · have hm : (s.heap.objs.size == sysModules) = false := beq_eq_false_iff_ne.mpr (Nat.ne_of_gt I.big)
    have fr : H s.heap.objs.size = none := I.hok.fresh (Nat.le_refl _)
    have hlen : (mergeT [] kvs).length ≤ sizeLine := by
      have h1 := mergeT_len [] kvs
      have h2 : kvs.length = ys.length := Paired.length rk
      rw [List.length_nil, h2, hl] at h1
      have : its.length ≤ sizeLine := by rw [← rv.length]; exact hz
      omega
    obtain ⟨o2, es, ep, hq2, h2, h3, h4, _, h5⟩ := dd
    refine ⟨.ref s.heap.objs.size, upd H s.heap.objs.size (.dT (mergeT [] kvs)), I.laid (t' := tk) (fun b o e => k b o (by simp) e) (Nat.le_refl _) (show ObjOk X.prog X.w _ _ _ (.dT (mergeT [] kvs)) from ⟨hlen, hm, storedAllH [] ys, (KT.merge rk .nil).keeps (fun c zs ec => by rw [upd_ne (ne_of_none ec fr)]; exact ec), o2, es, ep, hq2, h2, h3, h4, h5⟩), rfl, q _ fr⟩
end
end CD

-- dictcomps
namespace CD
open PySem PySem.Spec PyProof.Rows L2
/-! ### d != {} -/
section
variable {prog : Program} {w : World} {A : Around} {E : Value → Shared → Prop} {s : Shared}
theorem same_empty {nm : String} {a b : Addr} {es es2 : Array DictEntry} {ep ep2 : Nat} {Q : Bool → Shared → Prop} (ha : (a == sysModules) = false) (hb : (b == sysModules) = false)
    (da : s.heap.DictRaw a es ep) (db : s.heap.DictRaw b es2 ep2) (h0 : es2.size = 0) (h : Q (es.size == 0) s) : wpAny (model prog w) A (Builtin.Dict.samePairs nm a b) Q E s := by
  obtain ⟨oa, hoa, _, hda⟩ := da
  obtain ⟨ob, hob, _, hdb⟩ := db
  unfold Builtin.Dict.samePairs Builtin.Dict.showsAll
  rw [if_neg (show ¬ (a == sysModules) = true by rw [ha]; exact Bool.false_ne_true), if_neg (show ¬ (b == sysModules) = true by rw [hb]; exact Bool.false_ne_true)]
  refine wpAny_bind (wpAny_pure (wpAny_bind (wpAny_pure ?_)))
  refine wpAny_bind (wpAny_dictEntries hoa hda ?_)
  dsimp only
  refine wpAny_bind (wpAny_dictEntries hob hdb ?_)
  by_cases hsz : es.size = 0
  case neg =>
    rw [if_pos (by simpa [h0] using hsz)]
    have hbf : (es.size == 0) = false := by simpa using hsz
    rw [hbf] at h
    exact wpAny_bind (wpAny_rule (wpAny_pure h))
  case pos =>
    rw [hsz] at h
    rw [if_neg (by rw [hsz, h0]; simp)]
    refine wpAny_bind (wpAny_dictEpoch hoa hda ?_)
    refine wpAny_bind ?_
    rw [Std.Legacy.Range.forIn_eq_forIn_range']
    simp only [Std.Legacy.Range.size, Nat.sub_zero, Nat.add_sub_cancel, Nat.div_one]
    refine wpAny_forIn_list _ (fun rest q s' => s' = s ∧ q = (none, ()) ∧ rest = []) _ ?_ ?_ _ _ ⟨rfl, rfl, by rw [hsz]; rfl⟩
    · rintro x rest q s' ⟨_, _, hr⟩
      cases hr
    · rintro q s' ⟨rfl, rfl, _⟩
      exact wpAny_pure h
end
section
variable {X : Cx}
def rNeE : R2 := fun x y H Q => ∃ (a b : Addr) (kvs : List (List L2.Key × V)), x = .ref a ∧ y = .ref b ∧ H a = some (.dT kvs) ∧ H b = some (.dK []) ∧ Q (.bl (!decide (kvs = []))) H
theorem op_neE (hu : X.A.units + 65 < cLine) : OpR X (compareOp .NotEq) rNeE := by
  intro pins s σ H x y v u Q I rx ry h
  obtain ⟨a, b, kvs, rfl, rfl, ea, eb, q⟩ := h
  obtain rfl : v = Value.ref a := rx
  obtain rfl : u = Value.ref b := ry
  obtain ⟨z, hd, xs, rel, o, es, ep, ho, hx, hdat, hes, hxs, hnod⟩ := dt_of I.hok ea
  have raw : s.heap.DictRaw a es ep := ⟨o, ho, hx, hdat⟩
  obtain ⟨_, yb, vb, rb, db⟩ := (show ObjOk X.prog X.w H s.heap b (.dK []) from I.hok b _ eb)
  have lb : vb = [] := by
    have := rb.length
    cases vb with
    | nil => rfl
    | cons _ _ => cases this
  subst lb
  obtain ⟨ob, es2, ep2, hob, hcb, hdb, hkb, hpb, _⟩ := id db
  have raw2 : s.heap.DictRaw b es2 ep2 := ⟨ob, hob, hcb, hdb⟩
  have h0 : es2.size = 0 := by
    have := hpb.length
    rw [List.length_nil] at this
    rw [← Array.length_toList]
    exact this
  have l1 : es.size = xs.length := by rw [← Array.length_toList, hes, List.length_map]
  have l2 : kvs.length = xs.length := Paired.length rel
  refine wpAny_richCompare_same_room (op := .NotEq) raw.typeIs raw2.typeIs PySem.F.slot_dict_ne (wpAny_call_entry PySem.F.slot_dict_ne raw.typeIs PySem.F.entry_dict_ne ?_ (PySem.F.args_dict_ne_2 _ _)) (by omega)
  show wpAny _ _ (Builtin.Dict.dictSlotArgs "__ne__" ⟨[.ref a, .ref b], []⟩ >>= _) _ _ s
  refine wpAny_bind ?_
  unfold Builtin.Dict.dictSlotArgs
  refine wpAny_bind (wpAny_notOrdered_dict raw.typeIs ?_)
  show wpAny _ _ (pure (Value.ref a, Value.ref b)) _ _ s
  refine wpAny_pure ?_
  refine wpAny_bind (wpAny_isInstance (T := "dict") raw2.typeIs PySem.F.sub_dict_dict ?_)
  simp only [Bool.not_true, Bool.false_eq_true, if_false]
  refine wpAny_bind (wpAny_pure (wpAny_bind (wpAny_pure ?_)))
  refine wpAny_bind (same_empty hd yb raw raw2 h0 ?_)
  refine wpAny_pure ⟨_, rfl, ?_, ?_⟩
  · exact fun x => nomatch x
  · have e : (es.size == 0) = decide (kvs = []) := by
      rw [l1, ← l2]
      cases kvs <;> simp
    rw [e]
    exact fin_bl I q (by simp)
end
end CD

-- dictcomps
namespace CD
open PySem PySem.Spec PyProof.Rows L2
/-! ### for k, v in d.items(): d with tuples for keys -/
section
variable {X : Cx} {pins : List (Addr × Obj)} {σ : L2.St} {H : Hp} {s : Shared} {d : Addr} {o : Obj}
theorem frzT2 {kvs : List (List L2.Key × V)} (I : Inv X pins σ H s) (h : H d = some (.frz o (.dT kvs))) :
    (d == sysModules) = false ∧ s.heap.get? d = some o ∧ o.ExactDict ∧ ∃ (es : Array DictEntry) (ep : Nat), o.data = .dict es ep ∧ es.size = kvs.length ∧
      ∀ (i : Nat) (k : List L2.Key) (v : V), kvs[i]? = some (k, v) → ∃ (en : DictEntry) (q : Addr), es[i]? = some en ∧ en.key = .ref q ∧ H q = some (.tup (k.map kV)) ∧ RelV v en.val := by
  obtain ⟨hd, z, hs, xs, pr, o', es, ep, ho, hx, hdt, he, _⟩ := I.hok d _ h
  rw [hd] at ho
  cases ho
  refine ⟨hs, hd, hx, es, ep, hdt, ?_, fun i k v e => ?_⟩
  · have l1 : es.size = xs.length := size_of_entries he
    have l2 : kvs.length = xs.length := Paired.length pr
    omega
  · obtain ⟨b, hb, e1, e2, e3⟩ := paired_get pr e
    have q := entry_at he i
    rw [hb] at q
    exact ⟨_, b.2.1, q, rfl, e2, e3⟩
end
def Itit (d : Addr) (o : Obj) (kvs : List (List L2.Key × V)) : It :=
  ⟨fun i H => H d = some (.frz o (.dT kvs)) ∧ i < kvs.length, fun i H x H' => ∃ (T q : Addr) (k : List L2.Key) (v : V), kvs[i]? = some (k, v) ∧ x = .ref T ∧ H T = none ∧ H q = some (.tup (k.map kV)) ∧ H' = upd H T (.tup [.ref q, v]), fun i H => H d = some (.frz o (.dT kvs)) ∧ kvs.length ≤ i⟩
theorem walk_itemsT {d : Addr} {o : Obj} {kvs : List (List L2.Key × V)} : Walk (Itit d o kvs) kvs.length (fun H => H d = some (.frz o (.dT kvs)))
    (fun i H x H' => ∃ (T q : Addr) (k : List L2.Key) (v : V), kvs[i]? = some (k, v) ∧ x = .ref T ∧ H T = none ∧ H q = some (.tup (k.map kV)) ∧ H' = upd H T (.tup [.ref q, v])) :=
  ⟨fun _ _ hi q => ⟨q, hi⟩, fun _ q => ⟨q, Nat.le_refl _⟩, fun _ _ _ _ _ _ y => y⟩
theorem turn_itemsT {P : Program} {w : World} {K : PySem.W.Frag} {d : Addr} {o : Obj} {es : Array DictEntry} {ep : Nat} {kvs : List (List L2.Key × V)} {elts : List Expr} {kk : Nat} {tpos : Pos} (it : Addr) (hod : o.data = .dict es ep) :
    Turn P w K (.Tuple elts kk tpos) (Itit d o kvs) [it] it (fun i h => ∃ ok ov, IsItemIter h it d i kvs.length ep ok ov) where
  mem := by simp
  obj := fun i h st b hb => by
    have e : b = it := by simpa using hb
    subst e
    obtain ⟨ok, ov, e⟩ := st
    exact ⟨_, e, fun v z => nomatch z⟩
  keep := fun i h h' st k => let ⟨ok, ov, e⟩ := st; ⟨ok, ov, k it (by simp) _ e⟩
  item := by
    intro X hP hw hK hc i pins s σ H E I hf st hg
    subst hP hw hK
    obtain ⟨hd, hi⟩ := hg
    obtain ⟨hs, hgd, hx, es', ep', hdt, hsz, ent⟩ := frzT2 I hd
    obtain ⟨rfl, rfl⟩ := dict_ep hdt hod
    obtain ⟨⟨k, v⟩, hkv⟩ : ∃ p, kvs[i]? = some p := ⟨kvs[i], List.getElem?_eq_getElem hi⟩
    obtain ⟨en, q, hen, hkey, hq, rv⟩ := ent i k v hkv
    obtain ⟨ok, ov, he⟩ := st
    rw [← hsz] at he
    have hlt : it < s.heap.objs.size := Heap.lt_size he
    have raw : s.heap.DictRaw d es ep := ⟨o, hgd, hx, hod⟩
    have hi2 : i < es.size := by omega
    have een : es[i] = en := Option.some.inj ((Array.getElem?_eq_getElem hi2).symm.trans hen)
    refine wpAny_pyNext_items_item_raw he raw hi2 fun h' ho hT hz hk => ?_
    rw [een, hkey] at ho hT
    refine ⟨_, rfl, wpAny_letOwnedTupleGo_items (s := { s with heap := h' }) ho fun h'' he' sb => ?_⟩
    have hT2 : h''.get? s.heap.objs.size = some { cls := .type "tuple", data := .seq #[.ref q, en.val] } := (sb.2 _ (Nat.ne_of_gt hlt)).trans hT
    have new : ObjOk X.prog X.w (upd H s.heap.objs.size (.tup [.ref q, v])) h'' s.heap.objs.size (.tup [.ref q, v]) :=
      ⟨by show 2 ≤ sizeLine; decide, [.ref q, en.val], .cons rfl (.cons rv .nil), ⟨_, hT2, rfl, _, rfl⟩⟩
    have I1 : Inv X pins σ (upd H s.heap.objs.size (.tup [.ref q, v])) { s with heap := h'' } :=
      I.turnedNew (t' := s.toks) (ch := [it]) (fun b ob hb e => (sb.2 b (by simpa using hb)).trans (hk b ob (by simpa using hb) e)) hf (Nat.le_refl _) new
    refine ⟨.ref s.heap.objs.size, _, I1, rfl, ⟨_, q, k, v, hkv, rfl, I.hok.fresh (Nat.le_refl _), hq, rfl⟩, ⟨.ref q, en.val, ?_⟩, fun b hb => ?_⟩
    · rw [← hsz]; exact he'
    · have e : b = it := by simpa using hb
      rw [e, upd_ne (Nat.ne_of_lt hlt)]
      exact (hf it (by simp)).1
  done := by
    intro X hP hw hK hc i pins s σ H E I hf st hg
    subst hP hw hK
    obtain ⟨hd, hi⟩ := hg
    obtain ⟨f0, f1, f2, f3, f4, f5⟩ := hf it (by simp)
    obtain ⟨hs, hgd, hx, es', ep', hdt, hsz, ent⟩ := frzT2 I hd
    obtain ⟨rfl, rfl⟩ := dict_ep hdt hod
    obtain ⟨ok, ov, he⟩ := st
    rw [← hsz] at he
    have raw : s.heap.DictRaw d es ep := ⟨o, hgd, hx, hod⟩
    exact wpAny_pyNext_items_end_raw (I.ok.hd hc) he raw (by omega) fun h' eb => ⟨rfl, I.turned (t' := s.toks) (fun b ob hb e => eb b ob hb e) f0 f1 f3 f4 f5⟩
  self := fun A i s Q E st h => let ⟨_, _, e⟩ := st; PySem.W.kcp_self e h
def iItemsT (td : TE) : TI := fun σ H R => td σ H fun x H1 => ∃ d o kvs, x = .ref d ∧ H1 d = some (.frz o (.dT kvs)) ∧ R (Itit d o kvs) H1
theorem pi_itemsT {X : Cx} {e : Expr} {td : TE} {apos cpos tpos : Pos} {elts : List Expr} {kk : Nat} (he : PE X e td) (hbase : attributeBase e "items" X.env (eval e X.env) = eval e X.env := by rfl) (hline : (apos.endLine == cpos.line) = true := by rfl) :
    PI X (.Tuple elts kk tpos) (.Call (.Attribute e "items" apos) [] [] cpos) (iItemsT td) := by
  refine ⟨fun pins s σ H R I h => ?_⟩
  refine wpAny_Call_method (T := "dict") (id := "dict.items") hbase rfl hline F.plainAttrs_dict F.slot_dict_items F.type_dict_items (thn (he.run pins s σ H _ I h) fun u s1 ⟨x, H1, I1, rx, d, o, kvs, ex, hd, q⟩ => ?_)
  subst ex
  obtain rfl : u = Value.ref d := rx
  obtain ⟨hs, hgd, hx, es, ep, hdt, hsz, ent⟩ := frzT2 I1 hd
  have raw : s1.heap.DictRaw d es ep := ⟨o, hgd, hx, hdt⟩
  refine ⟨raw.typeIs, ?_, ?_⟩
  · intro a ea
    cases ea
    exact ⟨o, hgd, hx.2.1⟩
  have I2 : Inv X pins σ H1 { s1 with heap := s1.heap.push { cls := .type "dict_items", data := .fields #[.ref d] } } := I1.kept (t' := s1.toks) fun b ob q => Heap.get?_push_of_some _ q
  have fin : wpAny (model X.prog X.w) X.A (pyIter (.ref s1.heap.objs.size)) (PIE X pins σ (.Tuple elts kk tpos) R) X.xe { s1 with heap := s1.heap.push { cls := .type "dict_items", data := .fields #[.ref d] } } := by
    refine wpAny_pyIter_items_raw (d := d) ⟨_, Heap.get?_push_size _ rfl, rfl, rfl⟩ ⟨o, Heap.get?_push_of_some _ hgd, hx, hdt⟩ (pi_one (tk := s1.toks) I2 _ (turn_itemsT _ hdt) ⟨.none, .none, ?_⟩ q)
    rw [← hsz]
    exact Heap.get?_push_size _ rfl
  show wpAny _ _ (callWith cpos (.builtin "dict.items") [.ref d] [] []) _ X.xe s1
  exact method_meetsIn F.slot_dict_items F.entry_dict_items rfl (PySem.evalArgs_none ⟨rfl, raw.typeIs, F.args_dict_items_1 _, _, meets_dict_items_raw d hs, ⟨es, ep, raw⟩, fin⟩)
end CD

-- dictcomps
namespace CD
open PySem PySem.Spec PyProof.Rows L2
/-! ### d.values() and list(d.values()), d with ints and texts for keys (behind baseY2) -/
section
variable {X : Cx}
def rValuesK : V → List V → Hp → VK → Prop := fun x xs H Q => ∃ (a : Addr) (kvs : List (L2.Key × V)), x = .ref a ∧ xs = [] ∧ H a = some (.dK kvs) ∧ ∀ p, H p = none → Q (.ref p) (upd H p (valsO p a))
theorem mt_valuesK : MtR X "dict.values" rValuesK := by
  intro pins s σ H x xs v us Q I rx rxs h
  obtain ⟨a, kvs, rfl, rfl, ha, q⟩ := h
  cases rx
  cases rxs
  obtain ⟨z, hd, vs, rel, dd⟩ := dk_of I.hok ha
  obtain ⟨es, ep, raw, _⟩ := dd.raw
  refine call_meetsIn PySem.F.slot_dict_values raw.typeIs PySem.F.entry_dict_values (PySem.F.args_dict_values_1 _) (meets_dict_values_raw a hd) ⟨⟨es, ep, raw⟩, ?_⟩
  have new : ObjOk X.prog X.w (upd H s.heap.objs.size (valsO s.heap.objs.size a)) (s.heap.push { cls := .type "dict_values", data := .fields #[.ref a] }) s.heap.objs.size (valsO s.heap.objs.size a) :=
    ⟨⟨_, Heap.get?_push_size _ rfl, rfl, rfl⟩, ⟨_, Heap.get?_push_size _ rfl⟩, fun h1 h2 y k => let ⟨u, hu, r⟩ := y; ⟨u, k u hu, r⟩⟩
  exact ⟨.ref s.heap.objs.size, _, I.laid (t' := s.toks) (fun b u e => Heap.get?_push_of_some _ e) (Nat.le_refl _) new, rfl, q _ (I.hok.fresh (Nat.le_refl _))⟩
theorem vals_of {vs : List (L2.Key × Value)} : ∀ {kvs : List (L2.Key × V)}, KV kvs vs → Vals (kvs.map (·.2)) (vs.map (·.2)) := by
  induction vs with
  | nil => intro kvs h; cases h; exact .nil
  | cons v vs ih =>
    intro kvs h
    cases h with
    | cons r t => exact .cons r.2 (ih t)
theorem call_listVals (hcalm : X.calm = true) : CallR X (.type "list") (fun xs H Q => ∃ (p a : Addr) (kvs : List (L2.Key × V)), xs = [.ref p] ∧ H p = some (valsO p a) ∧ H a = some (.dK kvs) ∧ ∀ l, H l = none → Q (.ref l) (upd H l (.lst (kvs.map (·.2))))) := by
  intro pins s σ H xs us Q I r h
  obtain ⟨p, a, kvs, rfl, hp, ha, q⟩ := h
  rw [Vals.ref1 r]
  obtain ⟨z, hd, vs, rel, dd⟩ := dk_of I.hok ha
  obtain ⟨ep, hat⟩ := dd.dictAt
  have view : s.heap.IsValuesView p a := (show ObjOk X.prog X.w H s.heap p (valsO p a) from I.hok p _ hp).1
  have hl : kvs.length = vs.length := rel.length
  refine PySem.W.kdl_call (PySem.W.kdl_values (knd := mixKind X.prog X.w) (kvs := vs) (ep := ep) (r := p)) (I.ok.hd hcalm) ⟨view, hat⟩ (by rw [← hl]; exact z) fun h' tk acc c' hk hD hacc => ?_
  have hv : acc.toList = vs.map (·.2) := PySem.W.kdl_vals_eq acc.toList (by rw [Array.length_toList]; exact hacc.1) fun j v e => hacc.2 j v (by rw [← Array.getElem?_toList]; exact e)
  refine ⟨.ref s.heap.objs.size, upd H s.heap.objs.size (.lst (kvs.map (·.2))), I.laid (t' := tk) hk (Nat.le_refl _)
    (show ObjOk X.prog X.w _ _ _ (.lst (kvs.map (·.2))) from ⟨by rw [List.length_map]; exact z, acc.toList, c', by rw [hv]; exact vals_of rel, by rw [Array.toArray_toList]; exact hD⟩), rfl, q _ (I.hok.fresh (Nat.le_refl _))⟩
end
end CD

namespace CS
open PySem PySem.Spec PyProof.Rows L2
def top (i : Nat) : Stmt := PySem.Challenge.pw_calledseats_k76_largest_avoided_sets.main.body.getD i (.Pass ⟨0, 0, 0, 0⟩)
abbrev s_wall : Stmt := top 0
abbrev N_wall : List Str := ["k"]
theorem sc_wall : FnScope N_wall ["k"] (defScope s_wall) := ⟨rfl, rfl, rfl, by decide +kernel, rfl, by decide +kernel, by decide +kernel⟩
abbrev s_is_integer : Stmt := top 7
abbrev N_is_integer : List Str := ["value"]
theorem sc_is_integer : FnScope N_is_integer ["value"] (defScope s_is_integer) := ⟨rfl, rfl, rfl, by decide +kernel, rfl, by decide +kernel, by decide +kernel⟩
abbrev s_is_at_least : Stmt := top 8
abbrev N_is_at_least : List Str := ["value", "low"]
theorem sc_is_at_least : FnScope N_is_at_least ["value", "low"] (defScope s_is_at_least) := ⟨rfl, rfl, rfl, by decide +kernel, rfl, by decide +kernel, by decide +kernel⟩
abbrev s_is_between : Stmt := top 9
abbrev N_is_between : List Str := ["value", "low", "high"]
theorem sc_is_between : FnScope N_is_between ["value", "low", "high"] (defScope s_is_between) := ⟨rfl, rfl, rfl, by decide +kernel, rfl, by decide +kernel, by decide +kernel⟩
abbrev s_greatest_common_divisor : Stmt := top 10
abbrev N_greatest_common_divisor : List Str := ["first", "second"]
theorem sc_greatest_common_divisor : FnScope N_greatest_common_divisor ["first", "second"] (defScope s_greatest_common_divisor) := ⟨rfl, rfl, rfl, by decide +kernel, rfl, by decide +kernel, by decide +kernel⟩
abbrev s_Table_init : Stmt := inClass (top 14) 0
abbrev N_Table_init : List Str := ["self", "rings", "size"]
theorem sc_Table_init : FnScope N_Table_init ["self", "rings"] (defScope s_Table_init) := ⟨rfl, rfl, rfl, by decide +kernel, rfl, by decide +kernel, by decide +kernel⟩
abbrev s_Table_sizes : Stmt := inClass (top 14) 1
abbrev N_Table_sizes : List Str := ["self"]
theorem sc_Table_sizes : FnScope N_Table_sizes ["self"] (defScope s_Table_sizes) := ⟨rfl, rfl, rfl, by decide +kernel, rfl, by decide +kernel, by decide +kernel⟩
abbrev s_Table_count : Stmt := inClass (top 14) 2
abbrev N_Table_count : List Str := ["self", "product", "size"]
theorem sc_Table_count : FnScope N_Table_count ["self"] (defScope s_Table_count) := ⟨rfl, rfl, rfl, by decide +kernel, rfl, by decide +kernel, by decide +kernel⟩
abbrev s_Table_is_seat : Stmt := inClass (top 14) 3
abbrev N_Table_is_seat : List Str := ["self", "value", "place", "size"]
theorem sc_Table_is_seat : FnScope N_Table_is_seat ["self", "value"] (defScope s_Table_is_seat) := ⟨rfl, rfl, rfl, by decide +kernel, rfl, by decide +kernel, by decide +kernel⟩
abbrev s_Table_is_call : Stmt := inClass (top 14) 4
abbrev N_Table_is_call : List Str := ["self", "value"]
theorem sc_Table_is_call : FnScope N_Table_is_call ["self", "value"] (defScope s_Table_is_call) := ⟨rfl, rfl, rfl, by decide +kernel, rfl, by decide +kernel, by decide +kernel⟩
abbrev s_Table_shifted : Stmt := inClass (top 14) 5
abbrev N_Table_shifted : List Str := ["self", "seat", "call", "factor"]
theorem sc_Table_shifted : FnScope N_Table_shifted ["self", "seat", "call", "factor"] (defScope s_Table_shifted) := ⟨rfl, rfl, rfl, by decide +kernel, rfl, by decide +kernel, by decide +kernel⟩
abbrev s_Table_moves : Stmt := inClass (top 14) 6
abbrev N_Table_moves : List Str := ["self", "seat", "call"]
theorem sc_Table_moves : FnScope N_Table_moves ["self", "seat", "call"] (defScope s_Table_moves) := ⟨rfl, rfl, rfl, by decide +kernel, rfl, by decide +kernel, by decide +kernel⟩
abbrev s_Table_step : Stmt := inClass (top 14) 7
abbrev N_Table_step : List Str := ["self", "seat", "call", "direction"]
theorem sc_Table_step : FnScope N_Table_step ["self", "seat", "call", "direction"] (defScope s_Table_step) := ⟨rfl, rfl, rfl, by decide +kernel, rfl, by decide +kernel, by decide +kernel⟩
abbrev s_Table_order : Stmt := inClass (top 14) 8
abbrev N_Table_order : List Str := ["self", "seat", "least", "place", "size", "period"]
theorem sc_Table_order : FnScope N_Table_order ["self", "seat"] (defScope s_Table_order) := ⟨rfl, rfl, rfl, by decide +kernel, rfl, by decide +kernel, by decide +kernel⟩
abbrev s_Table_halves : Stmt := inClass (top 14) 9
abbrev N_Table_halves : List Str := ["self", "seat"]
theorem sc_Table_halves : FnScope N_Table_halves ["self", "seat"] (defScope s_Table_halves) := ⟨rfl, rfl, rfl, by decide +kernel, rfl, by decide +kernel, by decide +kernel⟩
abbrev s_require_table : Stmt := top 15
abbrev N_require_table : List Str := ["table"]
theorem sc_require_table : FnScope N_require_table ["table"] (defScope s_require_table) := ⟨rfl, rfl, rfl, by decide +kernel, rfl, by decide +kernel, by decide +kernel⟩
abbrev s_require_seat : Stmt := top 16
abbrev N_require_seat : List Str := ["table", "seat"]
theorem sc_require_seat : FnScope N_require_seat ["table", "seat"] (defScope s_require_seat) := ⟨rfl, rfl, rfl, by decide +kernel, rfl, by decide +kernel, by decide +kernel⟩
abbrev s_require_small : Stmt := top 17
abbrev N_require_small : List Str := ["table"]
theorem sc_require_small : FnScope N_require_small ["table"] (defScope s_require_small) := ⟨rfl, rfl, rfl, by decide +kernel, rfl, by decide +kernel, by decide +kernel⟩
abbrev s_all_seats : Stmt := top 18
abbrev N_all_seats : List Str := ["table", "found", "size", "start", "place"]
theorem sc_all_seats : FnScope N_all_seats ["table"] (defScope s_all_seats) := ⟨rfl, rfl, rfl, by decide +kernel, rfl, by decide +kernel, by decide +kernel⟩
abbrev s_weighted : Stmt := top 20
abbrev N_weighted : List Str := ["modulus", "weights", "seat", "weight", "place"]
theorem sc_weighted : FnScope N_weighted ["modulus", "weights", "seat"] (defScope s_weighted) := ⟨rfl, rfl, rfl, by decide +kernel, rfl, by decide +kernel, by decide +kernel⟩
abbrev s_least_odd_prime : Stmt := top 22
abbrev N_least_odd_prime : List Str := ["number", "prime"]
theorem sc_least_odd_prime : FnScope N_least_odd_prime ["number"] (defScope s_least_odd_prime) := ⟨rfl, rfl, rfl, by decide +kernel, rfl, by decide +kernel, by decide +kernel⟩
abbrev s_leading_ones : Stmt := top 23
abbrev N_leading_ones : List Str := ["sizes", "prime", "found", "size", "choices", "start", "weight", "weights"]
theorem sc_leading_ones : FnScope N_leading_ones ["sizes", "prime"] (defScope s_leading_ones) := ⟨rfl, rfl, rfl, by decide +kernel, rfl, by decide +kernel, by decide +kernel⟩
abbrev s_avoided_sets : Stmt := top 24
abbrev N_avoided_sets : List Str := ["table", "seat", "prime", "found", "weights", "own", "residue", "one"]
theorem sc_avoided_sets : FnScope N_avoided_sets ["table", "seat"] (defScope s_avoided_sets) := ⟨rfl, rfl, rfl, by decide +kernel, rfl, by decide +kernel, by decide +kernel⟩
abbrev s_law_mixed : Stmt := top 26
abbrev N_law_mixed : List Str := ["_law_cell", "_law_k", "_law_number"]
theorem sc_law_mixed : FnScope N_law_mixed ["_law_cell", "_law_k"] (defScope s_law_mixed) := ⟨rfl, rfl, rfl, by decide +kernel, rfl, by decide +kernel, by decide +kernel⟩
abbrev s_law_source : Stmt := top 27
abbrev N_law_source : List Str := ["_law_cell"]
theorem sc_law_source : FnScope N_law_source ["_law_cell"] (defScope s_law_source) := ⟨rfl, rfl, rfl, by decide +kernel, rfl, by decide +kernel, by decide +kernel⟩
abbrev s_law_take : Stmt := top 28
abbrev N_law_take : List Str := ["_law_source_here", "_law_many", "_law_found"]
theorem sc_law_take : FnScope N_law_take ["_law_source_here", "_law_many"] (defScope s_law_take) := ⟨rfl, rfl, rfl, by decide +kernel, rfl, by decide +kernel, by decide +kernel⟩
abbrev s_law_one : Stmt := top 29
abbrev N_law_one : List Str := ["_law_source_here", "_law_some"]
theorem sc_law_one : FnScope N_law_one ["_law_source_here", "_law_some"] (defScope s_law_one) := ⟨rfl, rfl, rfl, by decide +kernel, rfl, by decide +kernel, by decide +kernel⟩
abbrev s_law_rings : Stmt := top 30
abbrev N_law_rings : List Str := ["_law_source_here", "_law_limit", "_law_rings_here", "_law_total", "_law_ring", "_law_size"]
theorem sc_law_rings : FnScope N_law_rings ["_law_source_here", "_law_limit"] (defScope s_law_rings) := ⟨rfl, rfl, rfl, by decide +kernel, rfl, by decide +kernel, by decide +kernel⟩
abbrev s_law_seat : Stmt := top 31
abbrev N_law_seat : List Str := ["_law_source_here", "_law_rings_here", "_law_size"]
theorem sc_law_seat : FnScope N_law_seat ["_law_source_here", "_law_rings_here"] (defScope s_law_seat) := ⟨rfl, rfl, rfl, by decide +kernel, rfl, by decide +kernel, by decide +kernel⟩
abbrev s_law_all : Stmt := top 32
abbrev N_law_all : List Str := ["_law_rings_here", "_law_found", "_law_size", "_law_longer", "_law_start", "_law_place"]
theorem sc_law_all : FnScope N_law_all ["_law_rings_here"] (defScope s_law_all) := ⟨rfl, rfl, rfl, by decide +kernel, rfl, by decide +kernel, by decide +kernel⟩
abbrev s_law_value : Stmt := top 33
abbrev N_law_value : List Str := ["_law_modulus", "_law_weights", "_law_spot", "_law_weight", "_law_place"]
theorem sc_law_value : FnScope N_law_value ["_law_modulus", "_law_weights", "_law_spot"] (defScope s_law_value) := ⟨rfl, rfl, rfl, by decide +kernel, rfl, by decide +kernel, by decide +kernel⟩
abbrev s_law_least_prime : Stmt := top 34
abbrev N_law_least_prime : List Str := ["_law_rings_here", "_law_number", "_law_size"]
theorem sc_law_least_prime : FnScope N_law_least_prime ["_law_rings_here"] (defScope s_law_least_prime) := ⟨rfl, rfl, rfl, by decide +kernel, rfl, by decide +kernel, by decide +kernel⟩
abbrev s_law_due : Stmt := top 35
abbrev N_law_due : List Str := ["_law_rings_here", "_law_start", "_law_prime", "_law_every", "_law_rows", "_law_found", "_law_weights", "_law_values", "_law_own", "_law_residue", "_law_some", "_law_size", "_law_spot", "_law_one_here"]
theorem sc_law_due : FnScope N_law_due ["_law_rings_here", "_law_start", "_law_prime"] (defScope s_law_due) := ⟨rfl, rfl, rfl, by decide +kernel, rfl, by decide +kernel, by decide +kernel⟩
abbrev s_law_right : Stmt := top 36
abbrev N_law_right : List Str := ["_law_rings_here", "_law_start", "_law_board", "_law_prime", "_law_found", "_law_rank", "_law_expected", "_law_ring", "_law_some", "_law_other", "_law_shared", "_law_size", "_law_spot"]
theorem sc_law_right : FnScope N_law_right ["_law_rings_here", "_law_start"] (defScope s_law_right) := ⟨rfl, rfl, rfl, by decide +kernel, rfl, by decide +kernel, by decide +kernel⟩
abbrev s_law : Stmt := top 37
abbrev N_law : List Str := ["_law_script", "_law_cell", "_law_source_here", "_law_rings_here", "_law_due_here", "_law_first", "_law_place"]
theorem sc_law : FnScope N_law ["_law_script"] (defScope s_law) := ⟨rfl, rfl, rfl, by decide +kernel, rfl, by decide +kernel, by decide +kernel⟩
/-- what the top has written -/
structure TX (K : PySem.W.Frag) (mg : Str → Option Value) where
  f_wall : Addr
  fd_wall : FuncData
  F_wall : Fun K "_wall" "_wall" s_wall f_wall fd_wall
  b_wall : Binds K fd_wall ["k"] []
  m_wall : mg "_wall" = some (.ref f_wall)
  f_is_integer : Addr
  fd_is_integer : FuncData
  F_is_integer : Fun K "is_integer" "is_integer" s_is_integer f_is_integer fd_is_integer
  b_is_integer : Binds K fd_is_integer ["value"] []
  m_is_integer : mg "is_integer" = some (.ref f_is_integer)
  f_is_at_least : Addr
  fd_is_at_least : FuncData
  F_is_at_least : Fun K "is_at_least" "is_at_least" s_is_at_least f_is_at_least fd_is_at_least
  b_is_at_least : Binds K fd_is_at_least ["value", "low"] []
  m_is_at_least : mg "is_at_least" = some (.ref f_is_at_least)
  f_is_between : Addr
  fd_is_between : FuncData
  F_is_between : Fun K "is_between" "is_between" s_is_between f_is_between fd_is_between
  b_is_between : Binds K fd_is_between ["value", "low", "high"] []
  m_is_between : mg "is_between" = some (.ref f_is_between)
  f_greatest_common_divisor : Addr
  fd_greatest_common_divisor : FuncData
  F_greatest_common_divisor : Fun K "greatest_common_divisor" "greatest_common_divisor" s_greatest_common_divisor f_greatest_common_divisor fd_greatest_common_divisor
  b_greatest_common_divisor : Binds K fd_greatest_common_divisor ["first", "second"] []
  m_greatest_common_divisor : mg "greatest_common_divisor" = some (.ref f_greatest_common_divisor)
  f_Table_init : Addr
  fd_Table_init : FuncData
  F_Table_init : Fun K "__init__" "Table.__init__" s_Table_init f_Table_init fd_Table_init
  b_Table_init : Binds K fd_Table_init ["self", "rings"] []
  f_Table_sizes : Addr
  fd_Table_sizes : FuncData
  F_Table_sizes : Fun K "sizes" "Table.sizes" s_Table_sizes f_Table_sizes fd_Table_sizes
  b_Table_sizes : Binds K fd_Table_sizes ["self"] []
  f_Table_count : Addr
  fd_Table_count : FuncData
  F_Table_count : Fun K "count" "Table.count" s_Table_count f_Table_count fd_Table_count
  b_Table_count : Binds K fd_Table_count ["self"] []
  f_Table_is_seat : Addr
  fd_Table_is_seat : FuncData
  F_Table_is_seat : Fun K "is_seat" "Table.is_seat" s_Table_is_seat f_Table_is_seat fd_Table_is_seat
  b_Table_is_seat : Binds K fd_Table_is_seat ["self", "value"] []
  f_Table_is_call : Addr
  fd_Table_is_call : FuncData
  F_Table_is_call : Fun K "is_call" "Table.is_call" s_Table_is_call f_Table_is_call fd_Table_is_call
  b_Table_is_call : Binds K fd_Table_is_call ["self", "value"] []
  f_Table_shifted : Addr
  fd_Table_shifted : FuncData
  F_Table_shifted : Fun K "shifted" "Table.shifted" s_Table_shifted f_Table_shifted fd_Table_shifted
  b_Table_shifted : Binds K fd_Table_shifted ["self", "seat", "call", "factor"] []
  f_Table_moves : Addr
  fd_Table_moves : FuncData
  F_Table_moves : Fun K "moves" "Table.moves" s_Table_moves f_Table_moves fd_Table_moves
  b_Table_moves : Binds K fd_Table_moves ["self", "seat", "call"] []
  f_Table_step : Addr
  fd_Table_step : FuncData
  F_Table_step : Fun K "step" "Table.step" s_Table_step f_Table_step fd_Table_step
  b_Table_step : Binds K fd_Table_step ["self", "seat", "call", "direction"] []
  f_Table_order : Addr
  fd_Table_order : FuncData
  F_Table_order : Fun K "order" "Table.order" s_Table_order f_Table_order fd_Table_order
  b_Table_order : Binds K fd_Table_order ["self", "seat"] []
  f_Table_halves : Addr
  fd_Table_halves : FuncData
  F_Table_halves : Fun K "halves" "Table.halves" s_Table_halves f_Table_halves fd_Table_halves
  b_Table_halves : Binds K fd_Table_halves ["self", "seat"] []
  f_require_table : Addr
  fd_require_table : FuncData
  F_require_table : Fun K "require_table" "require_table" s_require_table f_require_table fd_require_table
  b_require_table : Binds K fd_require_table ["table"] []
  m_require_table : mg "require_table" = some (.ref f_require_table)
  f_require_seat : Addr
  fd_require_seat : FuncData
  F_require_seat : Fun K "require_seat" "require_seat" s_require_seat f_require_seat fd_require_seat
  b_require_seat : Binds K fd_require_seat ["table", "seat"] []
  m_require_seat : mg "require_seat" = some (.ref f_require_seat)
  f_require_small : Addr
  fd_require_small : FuncData
  F_require_small : Fun K "require_small" "require_small" s_require_small f_require_small fd_require_small
  b_require_small : Binds K fd_require_small ["table"] []
  m_require_small : mg "require_small" = some (.ref f_require_small)
  f_all_seats : Addr
  fd_all_seats : FuncData
  F_all_seats : Fun K "all_seats" "all_seats" s_all_seats f_all_seats fd_all_seats
  b_all_seats : Binds K fd_all_seats ["table"] []
  m_all_seats : mg "all_seats" = some (.ref f_all_seats)
  f_weighted : Addr
  fd_weighted : FuncData
  F_weighted : Fun K "weighted" "weighted" s_weighted f_weighted fd_weighted
  b_weighted : Binds K fd_weighted ["modulus", "weights", "seat"] []
  m_weighted : mg "weighted" = some (.ref f_weighted)
  f_least_odd_prime : Addr
  fd_least_odd_prime : FuncData
  F_least_odd_prime : Fun K "least_odd_prime" "least_odd_prime" s_least_odd_prime f_least_odd_prime fd_least_odd_prime
  b_least_odd_prime : Binds K fd_least_odd_prime ["number"] []
  m_least_odd_prime : mg "least_odd_prime" = some (.ref f_least_odd_prime)
  f_leading_ones : Addr
  fd_leading_ones : FuncData
  F_leading_ones : Fun K "leading_ones" "leading_ones" s_leading_ones f_leading_ones fd_leading_ones
  b_leading_ones : Binds K fd_leading_ones ["sizes", "prime"] []
  m_leading_ones : mg "leading_ones" = some (.ref f_leading_ones)
  f_avoided_sets : Addr
  fd_avoided_sets : FuncData
  F_avoided_sets : Fun K "avoided_sets" "avoided_sets" s_avoided_sets f_avoided_sets fd_avoided_sets
  b_avoided_sets : Binds K fd_avoided_sets ["table", "seat"] []
  m_avoided_sets : mg "avoided_sets" = some (.ref f_avoided_sets)
  f_law_mixed : Addr
  fd_law_mixed : FuncData
  F_law_mixed : Fun K "_law_mixed" "_law_mixed" s_law_mixed f_law_mixed fd_law_mixed
  b_law_mixed : Binds K fd_law_mixed ["_law_cell", "_law_k"] []
  m_law_mixed : mg "_law_mixed" = some (.ref f_law_mixed)
  f_law_source : Addr
  fd_law_source : FuncData
  F_law_source : Fun K "_law_source" "_law_source" s_law_source f_law_source fd_law_source
  b_law_source : Binds K fd_law_source ["_law_cell"] []
  m_law_source : mg "_law_source" = some (.ref f_law_source)
  f_law_take : Addr
  fd_law_take : FuncData
  F_law_take : Fun K "_law_take" "_law_take" s_law_take f_law_take fd_law_take
  b_law_take : Binds K fd_law_take ["_law_source_here", "_law_many"] []
  m_law_take : mg "_law_take" = some (.ref f_law_take)
  f_law_one : Addr
  fd_law_one : FuncData
  F_law_one : Fun K "_law_one" "_law_one" s_law_one f_law_one fd_law_one
  b_law_one : Binds K fd_law_one ["_law_source_here", "_law_some"] []
  m_law_one : mg "_law_one" = some (.ref f_law_one)
  f_law_rings : Addr
  fd_law_rings : FuncData
  F_law_rings : Fun K "_law_rings" "_law_rings" s_law_rings f_law_rings fd_law_rings
  b_law_rings : Binds K fd_law_rings ["_law_source_here", "_law_limit"] []
  m_law_rings : mg "_law_rings" = some (.ref f_law_rings)
  f_law_seat : Addr
  fd_law_seat : FuncData
  F_law_seat : Fun K "_law_seat" "_law_seat" s_law_seat f_law_seat fd_law_seat
  b_law_seat : Binds K fd_law_seat ["_law_source_here", "_law_rings_here"] []
  m_law_seat : mg "_law_seat" = some (.ref f_law_seat)
  f_law_all : Addr
  fd_law_all : FuncData
  F_law_all : Fun K "_law_all" "_law_all" s_law_all f_law_all fd_law_all
  b_law_all : Binds K fd_law_all ["_law_rings_here"] []
  m_law_all : mg "_law_all" = some (.ref f_law_all)
  f_law_value : Addr
  fd_law_value : FuncData
  F_law_value : Fun K "_law_value" "_law_value" s_law_value f_law_value fd_law_value
  b_law_value : Binds K fd_law_value ["_law_modulus", "_law_weights", "_law_spot"] []
  m_law_value : mg "_law_value" = some (.ref f_law_value)
  f_law_least_prime : Addr
  fd_law_least_prime : FuncData
  F_law_least_prime : Fun K "_law_least_prime" "_law_least_prime" s_law_least_prime f_law_least_prime fd_law_least_prime
  b_law_least_prime : Binds K fd_law_least_prime ["_law_rings_here"] []
  m_law_least_prime : mg "_law_least_prime" = some (.ref f_law_least_prime)
  f_law_due : Addr
  fd_law_due : FuncData
  F_law_due : Fun K "_law_due" "_law_due" s_law_due f_law_due fd_law_due
  b_law_due : Binds K fd_law_due ["_law_rings_here", "_law_start", "_law_prime"] []
  m_law_due : mg "_law_due" = some (.ref f_law_due)
  f_law_right : Addr
  fd_law_right : FuncData
  F_law_right : Fun K "_law_right" "_law_right" s_law_right f_law_right fd_law_right
  b_law_right : Binds K fd_law_right ["_law_rings_here", "_law_start"] []
  m_law_right : mg "_law_right" = some (.ref f_law_right)
  f_law : Addr
  fd_law : FuncData
  F_law : Fun K "law" "law" s_law f_law fd_law
  b_law : Binds K fd_law ["_law_script"] []
  m_law : mg "law" = some (.ref f_law)
  C_Table : Addr
  cl_Table : Cls K C_Table
  m_Table : mg "Table" = some (.ref C_Table)
  M_Table : Mk K C_Table f_Table_init
  me_Table_sizes : Meth K C_Table "sizes" f_Table_sizes
  me_Table_count : Meth K C_Table "count" f_Table_count
  me_Table_is_seat : Meth K C_Table "is_seat" f_Table_is_seat
  me_Table_is_call : Meth K C_Table "is_call" f_Table_is_call
  me_Table_shifted : Meth K C_Table "shifted" f_Table_shifted
  me_Table_moves : Meth K C_Table "moves" f_Table_moves
  me_Table_step : Meth K C_Table "step" f_Table_step
  me_Table_order : Meth K C_Table "order" f_Table_order
  me_Table_halves : Meth K C_Table "halves" f_Table_halves
  n_Table_rings : NoAttr K C_Table "rings"
  ic_Table : PySem.W.findIn K (.ref C_Table) "__class__" = some (some (.builtin "object.__class__"))
  im_Table : PySem.W.mroIn K C_Table (.type "object") = some true
  ig_ : PySem.W.specialIn K (.builtin "object.__class__") "__get__" = some (some (.builtin "getset_descriptor.__get__"))
  it_ : PySem.W.takesIn K (.builtin "object.__class__") = some true
  t_MAX_RINGS : Tok
  c_MAX_RINGS : mg "MAX_RINGS" = some (.int 4 t_MAX_RINGS)
  t_SMALL : Tok
  c_SMALL : mg "SMALL" = some (.int 300 t_SMALL)
  z_abs : mg "abs" = none
  z_all : mg "all" = none
  z_bool : mg "bool" = none
  z_int : mg "int" = none
  z_isinstance : mg "isinstance" = none
  z_len : mg "len" = none
  z_list : mg "list" = none
  z_max : mg "max" = none
  z_range : mg "range" = none
  z_sorted : mg "sorted" = none
  z_sum : mg "sum" = none
  z_tuple : mg "tuple" = none
  z_zip : mg "zip" = none
/-- not an int (a bool is none) -/
def NotI (K : PySem.W.Frag) (H : Hp) (x : V) : Prop := ∃ t b1 b2, TyX K H x t ∧ PySem.W.kitOne K t (.type "int") = some b1 ∧ PySem.W.kitOne K t (.type "bool") = some b2 ∧ (b1 && !b2) = false
/-- what x is, if an int -/
def IsI (K : PySem.W.Frag) (H : Hp) (x : V) : Option Int → Prop
  | some i => x = .int i
  | none => NotI K H x
def atLeast : Option Int → Int → Bool
  | some i, low => decide (low ≤ i)
  | none, _ => false
def between : Option Int → Int → Int → Bool
  | some i, low, high => decide (low ≤ i) && decide (i ≤ high)
  | none, _, _ => false

section
variable {P : Program} {w : World} {K : PySem.W.Frag} {mg : Str → Option Value} {base : Heap}
def sp_is_integer (K : PySem.W.Frag) : Sp := fun vs H Q _ => ∃ x o, vs = [x] ∧ IsI K H x o ∧ Q (.bl o.isSome) H
theorem ok_is_integer (T : TX K mg) : FnOk P w K mg base CX0 1 T.f_is_integer T.fd_is_integer ["value"] (sp_is_integer K) := by
  refine T.F_is_integer.ok sc_is_integer (fun vs H Q E h => ?_) (fun cdv A outer s H vs Q E hr h => ?_)
  · obtain ⟨x, o, rfl, _⟩ := h
    rfl
  · obtain ⟨x, o, rfl, hx, k⟩ := h
    refine ⟨_, (pss_one (ps_ret (pe_and (pe_callB call_isi (by rfl) T.z_isinstance (by decide +kernel) (pa_cons (pv 0) (pa_cons (pe_bltn (v := .ty "int") rfl T.z_int (by decide +kernel) rfl) pa_nil))) (pe_one (pe_not (pe_callB call_isi (by rfl) T.z_isinstance (by decide +kernel) (pa_cons (pv 0) (pa_cons (pe_bltn (v := .ty "bool") rfl T.z_bool (by decide +kernel) rfl) pa_nil)))))))), ?_⟩
    cases o with
    | some i =>
      cases hx
      exact ⟨_, rfl, _, _, _, _, true, rfl, .ty _, .base (.int i), kit_ty (by decide +kernel), _, rfl, _, rfl, _, _, _, _, false, rfl, .ty _, .base (.int i), kit_ty (by decide +kernel), _, rfl, k⟩
    | none =>
      obtain ⟨t, b1, b2, ht, h1, h2, hb⟩ := hx
      refine ⟨_, rfl, _, _, _, _, b1, rfl, .ty _, ht, h1, _, rfl, ?_⟩
      cases b1 with
      | false => exact k
      | true =>
        refine ⟨_, rfl, _, _, _, _, b2, rfl, .ty _, ht, h2, _, rfl, ?_⟩
        have e : (!b2) = false := hb
        rw [e]
        exact k
def sp_is_at_least (K : PySem.W.Frag) : Sp := fun vs H Q _ => ∃ x o low, vs = [x, .int low] ∧ IsI K H x o ∧ Q (.bl (atLeast o low)) H
theorem ok_is_at_least (T : TX K mg) : FnOk P w K mg base CX0 2 T.f_is_at_least T.fd_is_at_least ["value", "low"] (sp_is_at_least K) := by
  refine T.F_is_at_least.ok sc_is_at_least (fun vs H Q E h => ?_) (fun cdv A outer s H vs Q E hr h => ?_)
  · obtain ⟨x, o, low, rfl, _⟩ := h
    rfl
  · obtain ⟨x, o, low, rfl, hx, k⟩ := h
    refine ⟨_, (pss_one (ps_ret (pe_and (pe_call (ok_is_integer T) hr rfl T.m_is_integer T.F_is_integer.kp T.b_is_integer .nil pass0 (pa_cons (pv 0) pa_nil)) (pe_one (pe_cmpR op_ge (pv 0) (pv 1) (nomark _)))))), ?_⟩
    refine ⟨_, rfl, x, o, rfl, hx, _, rfl, ?_⟩
    cases o with
    | none => exact k
    | some i =>
      cases hx
      exact ⟨_, rfl, _, rfl, _, _, rfl, rfl, k⟩
def sp_is_between (K : PySem.W.Frag) : Sp := fun vs H Q _ => ∃ x o low high, vs = [x, .int low, .int high] ∧ IsI K H x o ∧ Q (.bl (between o low high)) H
theorem ok_is_between (T : TX K mg) : FnOk P w K mg base CX0 2 T.f_is_between T.fd_is_between ["value", "low", "high"] (sp_is_between K) := by
  refine T.F_is_between.ok sc_is_between (fun vs H Q E h => ?_) (fun cdv A outer s H vs Q E hr h => ?_)
  · obtain ⟨x, o, low, high, rfl, _⟩ := h
    rfl
  · obtain ⟨x, o, low, high, rfl, hx, k⟩ := h
    refine ⟨_, (pss_one (ps_ret (pe_and (pe_call (ok_is_integer T) hr rfl T.m_is_integer T.F_is_integer.kp T.b_is_integer .nil pass0 (pa_cons (pv 0) pa_nil)) (pe_one (pe_chain op_le op_le (pv 1) (pv 0) (pv 2)))))), ?_⟩
    refine ⟨_, rfl, x, o, rfl, hx, _, rfl, ?_⟩
    cases o with
    | none => exact k
    | some i =>
      cases hx
      refine ⟨_, rfl, _, rfl, _, _, rfl, rfl, _, rfl, ?_⟩
      refine ite2 (fun c => ?_) (fun c => ?_)
      · have c1 : low ≤ i := of_decide_eq_true c
        refine ⟨_, rfl, _, _, rfl, rfl, ?_⟩
        have e : between (some i) low high = decide (i ≤ high) := by show (decide (low ≤ i) && decide (i ≤ high)) = _; rw [c]; rfl
        rw [e] at k
        exact k
      · have e : between (some i) low high = false := by show (decide (low ≤ i) && decide (i ≤ high)) = _; rw [Bool.eq_false_iff.mpr c]; rfl
        rw [e] at k
        exact k
end

/-- a table of these sizes stands at a -/
def TabAt (C : Addr) (H : Hp) (a : Addr) (ns : List Int) : Prop := ∃ dx t, H a = some (.ins C dx [("rings", .ref t)]) ∧ H t = some (.tup (ns.map V.int))
theorem TabAt.mono {C : Addr} {H H2 : Hp} {a : Addr} {ns : List Int} (e : Ex H H2) (h : TabAt C H a ns) : TabAt C H2 a ns := by
  obtain ⟨dx, t, h1, h2⟩ := h
  exact ⟨dx, t, e _ _ h1, e _ _ h2⟩
/-- a tracked list (false) or tuple (true) -/
def SqH (H : Hp) (p : Bool × Addr) (xs : List V) : Prop := if p.1 = true then H p.2 = some (.tup xs) else H p.2 = some (.lst xs)
theorem SqH.sq {K : PySem.W.Frag} {H : Hp} {p : Bool × Addr} {xs : List V} (h : SqH H p xs) : CZ.SqK K H p xs := by
  obtain ⟨b, a⟩ := p
  cases b
  · exact SqL.of (show H a = some (.lst xs) from h)
  · exact SqT.of (show H a = some (.tup xs) from h)
theorem SqH.mono {H H2 : Hp} {p : Bool × Addr} {xs : List V} (e : Ex H H2) (h : SqH H p xs) : SqH H2 p xs := by
  obtain ⟨b, a⟩ := p
  cases b
  · exact e _ _ (show H a = some (.lst xs) from h)
  · exact e _ _ (show H a = some (.tup xs) from h)
theorem SqH.ty {K : PySem.W.Frag} {H : Hp} {p : Bool × Addr} {xs : List V} (h : SqH H p xs) : TyX K H (.ref p.2) (.type (if p.1 = true then "tuple" else "list")) := by
  obtain ⟨b, a⟩ := p
  cases b
  · exact .base (.lst (show H a = some (.lst xs) from h))
  · exact .base (.tup (show H a = some (.tup xs) from h))
/-- sizes of a table -/
structure SzOk (ns : List Int) : Prop where
  pos : ns ≠ []
  le : ns.length ≤ 4
  one : ∀ n ∈ ns, 1 ≤ n
theorem len_line {α : Type} {l : List α} (h : l.length ≤ 4) : l.length ≤ sizeLine := Nat.le_trans h (by decide)
theorem take_lt {α : Type} {l : List α} (h : l.length ≤ 1000) (i : Nat) : (l.take i).length < sizeLine := by
  rw [List.length_take]
  exact Nat.lt_of_le_of_lt (Nat.le_trans (Nat.min_le_right _ _) h) (by decide)
theorem take_more {α : Type} {l : List α} {i : Nat} {x : α} (h : l[i]? = some x) : l.take (i + 1) = l.take i ++ [x] := by
  rw [List.take_add_one, h]
  rfl
theorem kit_seq {K : PySem.W.Frag} (b : Bool) : PySem.W.kitAny K (.type (if b = true then "tuple" else "list")) [.type "list", .type "tuple"] = some true := by
  cases b
  · exact kitAny_cons (b := true) (kit_ty (by decide +kernel)) (fun h => nomatch h) (fun _ => rfl)
  · exact kitAny_cons (b := false) (kit_ty (by decide +kernel)) (fun _ => kitAny_cons (b := true) (kit_ty (by decide +kernel)) (fun h => nomatch h) (fun _ => rfl)) (fun h => nomatch h)
theorem sq_or {K : PySem.W.Frag} {H : Hp} {b : Bool} {a : Addr} {xs : List V} (h : SqH H (b, a) xs) : SqL K H a xs ∨ SqT K H a xs := by
  cases b
  · exact .inl (SqL.of (show H a = some (.lst xs) from h))
  · exact .inr (SqT.of (show H a = some (.tup xs) from h))
section
variable {P : Program} {w : World} {K : PySem.W.Frag} {mg : Str → Option Value} {base : Heap}
def sp_Table_init (C : Addr) : Sp := fun vs H Q _ => ∃ (p dx : Addr) (q : Bool × Addr) (ns : List Int), vs = [.ref p, .ref q.2] ∧ H p = some (.ins C dx []) ∧ SqH H q (ns.map V.int) ∧ SzOk ns ∧
  ∀ H2, (∀ c o, c ≠ p → H c = some o → H2 c = some o) → (∃ t, H2 p = some (.ins C dx [("rings", .ref t)]) ∧ H2 t = some (.tup (ns.map V.int))) → Q .non H2
theorem ok_Table_init (T : TX K mg) : FnOk P w K mg base CX0 3 T.f_Table_init T.fd_Table_init ["self", "rings"] (sp_Table_init T.C_Table) := by
  refine T.F_Table_init.ok sc_Table_init (fun vs H Q E h => ?_) (fun cdv A outer s H vs Q E hr h => ?_)
  · obtain ⟨p, dx, q, ns, rfl, _⟩ := h
    rfl
  · obtain ⟨p, dx, ⟨b, a⟩, ns, rfl, hp, hq, ok, k⟩ := h
    refine ⟨_, (pss_cons (ps_if (PW.pt (pw_or (pt_not (pt_val (pe_callB call_isiT (by rfl) T.z_isinstance (by decide +kernel) (pa_cons (pv 1) (pa_cons (pe_tup (pa_cons (pe_bltn (v := .ty "list") rfl T.z_list (by decide +kernel) rfl) (pa_cons (pe_bltn (v := .ty "tuple") rfl T.z_tuple (by decide +kernel) rfl) pa_nil))) pa_nil))))) (pw_or1 (pt_not (pt_chain op_le op_le pe_int (pe_callB call_len_seq (by rfl) T.z_len (by decide +kernel) (pa_cons (pv 1) pa_nil)) (pe_glob (v := .int 4) rfl T.c_MAX_RINGS ⟨_, rfl⟩)))))) pss_never pss_nil) (pss_cons (ps_if (pt_not (pt_val (pe_callB (cr_all rfl) (by rfl) T.z_all (by decide +kernel) (pa_cons (pe_lc (own := [("size", 2)]) (g := (gName 2)) rfl sc_Table_init.nd (pi_seq (pv 1)) (blkOk_by (N := N_Table_init) (sc := defScope s_Table_init) (by decide +kernel)) (fun _ _ _ _ _ => (pg_name (i := 2) sc_Table_init.nd rfl (Or.inl rfl))) (fun _ _ _ _ _ => pts_nil) (fun _ _ _ _ _ => (pe_call (ok_is_at_least T) hr rfl T.m_is_at_least T.F_is_at_least.kp T.b_is_at_least .nil pass0 (pa_cons (pv 2) (pa_cons pe_int pa_nil))))) pa_nil)))) pss_never pss_nil) (pss_one (ps_fld (pv 0) (pe_callTy call_tuple_of (by rfl) T.z_tuple (by decide +kernel) (pa_cons (pv 1) pa_nil)) rfl)))), ?_⟩
    refine ⟨_, rfl, by show 2 ≤ sizeLine; decide, fun y hy => ?_⟩
    refine ⟨_, y, _, _, _, true, rfl, upd_same, .cons (.ty _) (.cons (.ty _) .nil), (hq.mono (exn hy)).ty, kit_seq b, _, rfl, iteF ?_⟩
    have q1 := hq.mono (exn (o := .tup [.ty "list", .ty "tuple"]) hy)
    have lp : 1 ≤ ns.length := List.length_pos_iff.mpr ok.pos
    have l4 := ok.le
    refine ⟨_, rfl, a, _, rfl, sq_or q1, _, _, rfl, rfl, _, rfl, itt (decide_eq_true (by rw [List.length_map]; omega)) ?_⟩
    refine ⟨_, _, rfl, rfl, _, rfl, itf ?_ ?_⟩
    · rw [List.length_map, decide_eq_true (by omega)]
      rfl
    · have all1 : (ns.map fun n => atLeast (some n) 1).all id = true := by
        rw [List.all_map, List.all_eq_true]
        exact fun n hn => decide_eq_true (ok.one n hn)
      refine ⟨_, rfl, (b, a), rfl, ⟨_, q1.sq⟩, fun D hD => ?_⟩
      refine lc_vals walk_seq ((ns.map fun n => atLeast (some n) 1).map V.bl) (by simp) (by rw [List.length_map]; omega) hD (fun H3 e => (q1.mono e).sq) ?_ gmono_name ?_
      · intro i x H3 H4 R hi e yy kk
        obtain ⟨rfl, hx⟩ := yy
        obtain ⟨n, hn, rfl⟩ := map_get hx
        exact ⟨rfl, _, rfl, _, some n, 1, rfl, rfl, kk _ _ exr (by simp [hn])⟩
      · intro H3 e hD3
        have hp3 := e _ _ (exn hy _ _ hp)
        have q3 := q1.mono e
        have ex3 : Ex H H3 := fun c o z => e _ _ (exn hy _ _ z)
        refine ⟨D, _, rfl, SqL.of hD3, _, rfl, itf (by rw [all1]; rfl) ?_⟩
        cases b with
        | false =>
          refine ⟨_, rfl, a, _, rfl, .inl ⟨SqL.of q3, fun l hl => ?_⟩⟩
          have npl : p ≠ l := ne_of_none hp3 hl
          refine ⟨_, rfl, p, _, dx, _, rfl, (by rw [upd_ne npl]; exact hp3), T.cl_Table, T.n_Table_rings, (by show 0 < 1000; decide), ?_⟩
          refine k _ (fun c o hc z => ?_) ⟨l, upd_same, by rw [upd_ne npl.symm, upd_same]⟩
          rw [upd_ne hc, upd_ne (ne_of_none (ex3 c o z) hl)]
          exact ex3 c o z
        | true =>
          refine ⟨_, rfl, a, _, rfl, .inr ⟨SqT.of q3, ?_⟩⟩
          refine ⟨_, rfl, p, _, dx, _, rfl, hp3, T.cl_Table, T.n_Table_rings, (by show 0 < 1000; decide), ?_⟩
          have q3 : H3 a = some (.tup (ns.map V.int)) := q3
          refine k _ (fun c o hc z => ?_) ⟨a, upd_same, by rw [upd_ne (ne_of q3 hp3 (by intro z; cases z))]; exact q3⟩
          rw [upd_ne hc]
          exact ex3 c o z
end

theorem TyX.mono {K : PySem.W.Frag} {H H2 : Hp} {x : V} {t : Value} (e : Ex H H2) (h : TyX K H x t) : TyX K H2 x t := by
  cases h with
  | base h =>
    cases h with
    | non => exact .base .non
    | bl x => exact .base (.bl x)
    | int x => exact .base (.int x)
    | str x => exact .base (.str x)
    | flt x => exact .base (.flt x)
    | lst h => exact .base (.lst (e _ _ h))
    | frz h => exact .base (.frz (e _ _ h))
    | tup h => exact .base (.tup (e _ _ h))
    | dK h => exact .base (.dK (e _ _ h))
    | dT h => exact .base (.dT (e _ _ h))
    | ins h a b c d f => exact .base (.ins (e _ _ h) a b c d f)
  | byt b => exact .byt b
  | set h => exact .set (e _ _ h)
  | kList a b => exact .kList a b
  | kTuple a b => exact .kTuple a b
  | kDict a b => exact .kDict a b
  | fTuple h => exact .fTuple (e _ _ h)
  | fDict h => exact .fDict (e _ _ h)
theorem IsI.mono {K : PySem.W.Frag} {H H2 : Hp} {x : V} {o : Option Int} (e : Ex H H2) (h : IsI K H x o) : IsI K H2 x o := by
  cases o with
  | some i => exact h
  | none =>
    obtain ⟨t, b1, b2, ht, r⟩ := h
    exact ⟨t, b1, b2, TyX.mono e ht, r⟩
theorem paired_get {α β : Type} {R : α → β → Prop} : ∀ {l : List α} {m : List β} {i : Nat} {x : α}, Paired R l m → l[i]? = some x → ∃ y, m[i]? = some y ∧ R x y
  | _, _, _, _, .nil, h => by simp at h
  | _, _, 0, _, .cons r _, h => by simp at h; subst h; exact ⟨_, rfl, r⟩
  | _, _, i + 1, x, .cons _ t, h => by
    obtain ⟨y, h1, h2⟩ := paired_get (i := i) (x := x) t (by simpa using h)
    exact ⟨y, by simpa using h1, h2⟩
/-- what an argument is as a tuple: its items, as ints or not -/
def TupA (K : PySem.W.Frag) (H : Hp) (x : V) : Option (List (Option Int)) → Prop
  | some os => ∃ a xs, x = .ref a ∧ H a = some (.tup xs) ∧ xs.length ≤ 1000 ∧ Paired (IsI K H) xs os
  | none => ∃ t, TyX K H x t ∧ PySem.W.kitOne K t (.type "tuple") = some false
theorem paired_ints {K : PySem.W.Frag} {H : Hp} : ∀ ps : List Int, Paired (IsI K H) (ps.map V.int) (ps.map some)
  | [] => .nil
  | p :: ps => .cons rfl (paired_ints ps)
theorem TupA.ints {K : PySem.W.Frag} {H : Hp} {a : Addr} {ps : List Int} (h : H a = some (.tup (ps.map V.int))) (hl : ps.length ≤ 1000) : TupA K H (.ref a) (some (ps.map some)) :=
  ⟨a, _, rfl, h, by rw [List.length_map]; exact hl, paired_ints ps⟩
def isSeatO (ns : List Int) : Option (List (Option Int)) → Bool
  | some os => decide (os.length = ns.length) && (List.zipWith (fun o n => between o 0 (n - 1)) os ns).all id
  | none => false
def isCallO (ns : List Int) : Option (List (Option Int)) → Bool
  | some os => decide (os.length = ns.length) && (os.map Option.isSome).all id
  | none => false
/-- a seat: one place a ring -/
def SeatOk : List Int → List Int → Prop
  | n :: ns, p :: ps => (0 ≤ p ∧ p < n) ∧ SeatOk ns ps
  | [], [] => True
  | _, _ => False
theorem SeatOk.len : ∀ {ns ps : List Int}, SeatOk ns ps → ps.length = ns.length
  | [], [], _ => rfl
  | _ :: _, _ :: _, h => by
    show _ + 1 = _ + 1
    rw [SeatOk.len h.2]
theorem seat_is : ∀ {ns ps : List Int}, SeatOk ns ps → (List.zipWith (fun o n => between o 0 (n - 1)) (ps.map some) ns).all id = true
  | [], [], _ => rfl
  | n :: ns, p :: ps, h => by
    have ih := seat_is h.2
    show (between (some p) 0 (n - 1) && _) = true
    rw [Bool.and_eq_true]
    refine ⟨?_, ih⟩
    show (decide (0 ≤ p) && decide (p ≤ n - 1)) = true
    rw [decide_eq_true h.1.1, decide_eq_true (by have := h.1.2; omega)]
    rfl
theorem isSeat_ok {ns ps : List Int} (h : SeatOk ns ps) : isSeatO ns (some (ps.map some)) = true := by
  show (decide ((ps.map some).length = ns.length) && _) = true
  rw [Bool.and_eq_true]
  exact ⟨decide_eq_true (by rw [List.length_map]; exact h.len), seat_is h⟩
theorem isCall_ok {ns cs : List Int} (h : cs.length = ns.length) : isCallO ns (some (cs.map some)) = true := by
  show (decide ((cs.map some).length = ns.length) && _) = true
  rw [Bool.and_eq_true]
  refine ⟨decide_eq_true (by rw [List.length_map]; exact h), ?_⟩
  rw [List.map_map, List.all_map, List.all_eq_true]
  exact fun _ _ => rfl
/-- a step by a multiple of a call -/
def shiftL : List Int → List Int → List Int → Int → List Int
  | n :: ns, p :: ps, c :: cs, f => (p + f * c) % n :: shiftL ns ps cs f
  | _, _, _, _ => []
theorem shift_len : ∀ {ns ps cs : List Int} {f : Int}, ps.length = ns.length → cs.length = ns.length → (shiftL ns ps cs f).length = ns.length
  | [], _, _, _, _, _ => by simp [shiftL]
  | _ :: ns, p :: ps, c :: cs, f, h1, h2 => by
    have ih := @shift_len ns ps cs f (by simpa using h1) (by simpa using h2)
    show (shiftL ns ps cs f).length + 1 = _ + 1
    rw [ih]
theorem shift_get : ∀ {ns ps cs : List Int} {f : Int} {i : Nat} {n p c : Int}, ns[i]? = some n → ps[i]? = some p → cs[i]? = some c → (shiftL ns ps cs f)[i]? = some ((p + f * c) % n)
  | n :: ns, p :: ps, c :: cs, f, 0, _, _, _, h1, h2, h3 => by
    simp at h1 h2 h3
    subst h1 h2 h3
    rfl
  | n :: ns, p :: ps, c :: cs, f, i + 1, a, b, d, h1, h2, h3 => by
    have ih := @shift_get ns ps cs f i a b d (by simpa using h1) (by simpa using h2) (by simpa using h3)
    show (shiftL ns ps cs f)[i]? = _
    exact ih
  | [], _, _, _, i, _, _, _, h1, _, _ => by simp at h1
  | _ :: _, [], _, _, i, _, _, _, _, h2, _ => by simp at h2
  | _ :: _, _ :: _, [], _, i, _, _, _, _, _, h3 => by simp at h3
theorem mul_ok {i j : Int} (h : (-(2 ^ 64) < i ∧ i < 2 ^ 64) ∨ (-(2 ^ 64) < j ∧ j < 2 ^ 64)) : IntMulOk i j := CMul.ok h
theorem zip_get {α β γ : Type} {f : α → β → γ} {l : List α} {m : List β} {i : Nat} {x : α} {y : β} (h1 : l[i]? = some x) (h2 : m[i]? = some y) : (List.zipWith f l m)[i]? = some (f x y) := by
  rw [List.getElem?_zipWith, h1, h2]
section
variable {P : Program} {w : World} {K : PySem.W.Frag} {mg : Str → Option Value} {base : Heap}
def sp_Table_sizes (C : Addr) : Sp := fun vs H Q _ => ∃ (a dx t : Addr), vs = [.ref a] ∧ H a = some (.ins C dx [("rings", .ref t)]) ∧ Q (.ref t) H
theorem ok_Table_sizes (T : TX K mg) : FnOk P w K mg base CX0 1 T.f_Table_sizes T.fd_Table_sizes ["self"] (sp_Table_sizes T.C_Table) := by
  refine T.F_Table_sizes.ok sc_Table_sizes (fun vs H Q E h => ?_) (fun cdv A outer s H vs Q E hr h => ?_)
  · obtain ⟨a, dx, t, rfl, _⟩ := h
    rfl
  · obtain ⟨a, dx, t, rfl, h1, k⟩ := h
    exact ⟨_, (pss_one (ps_ret (pe_fld (pv 0) rfl))), ⟨_, rfl, a, _, dx, _, _, rfl, h1, T.cl_Table, T.n_Table_rings, rfl, k⟩⟩
def sp_Table_is_seat (K : PySem.W.Frag) (C : Addr) : Sp := fun vs H Q _ => ∃ (a : Addr) (x : V) (ns : List Int) (ot : Option (List (Option Int))), vs = [.ref a, x] ∧ TabAt C H a ns ∧ ns.length ≤ 4 ∧ TupA K H x ot ∧ ∀ H2, Ex H H2 → Q (.bl (isSeatO ns ot)) H2
theorem ok_Table_is_seat (T : TX K mg) : FnOk P w K mg base CX0 3 T.f_Table_is_seat T.fd_Table_is_seat ["self", "value"] (sp_Table_is_seat K T.C_Table) := by
  refine T.F_Table_is_seat.ok sc_Table_is_seat (fun vs H Q E h => ?_) (fun cdv A outer s H vs Q E hr h => ?_)
  · obtain ⟨a, x, ns, ot, rfl, _⟩ := h
    rfl
  · obtain ⟨a, x, ns, ot, rfl, ⟨dx, t, h1, h2⟩, l4, hx, k⟩ := h
    refine ⟨_, (pss_cons (ps_if (PW.pt (pw_or (pt_not (pt_val (pe_callB call_isi (by rfl) T.z_isinstance (by decide +kernel) (pa_cons (pv 1) (pa_cons (pe_bltn (v := .ty "tuple") rfl T.z_tuple (by decide +kernel) rfl) pa_nil))))) (pw_or1 (pt_cmpR op_ne (pe_callB call_len_seq (by rfl) T.z_len (by decide +kernel) (pa_cons (pv 1) pa_nil)) (pe_callB call_len_seq (by rfl) T.z_len (by decide +kernel) (pa_cons (pe_fld (pv 0) rfl) pa_nil)) (nomark _))))) (pss_one (ps_ret pe_bl)) pss_nil) (pss_one (ps_ret (pe_callB (cr_all rfl) (by rfl) T.z_all (by decide +kernel) (pa_cons (pe_lc (own := [("place", 2), ("size", 3)]) (g := (gTup K 2 (gCons (gName 2) (gCons (gName 3) gNil)))) rfl sc_Table_is_seat.nd (CZ.pi_z2s (fl := [true, true]) rfl (by rfl) T.z_zip (pa_cons (pv 1) (pa_cons (pe_fld (pv 0) rfl) pa_nil))) (blkOk_by (N := N_Table_is_seat) (sc := defScope s_Table_is_seat) (by decide +kernel)) (fun _ _ _ _ _ => (pg_tup rfl (pgs_cons (pg_name (i := 2) sc_Table_is_seat.nd rfl (Or.inl rfl)) (pgs_cons (pg_name (i := 3) sc_Table_is_seat.nd rfl (Or.inl rfl)) pgs_nil)))) (fun _ _ _ _ _ => pts_nil) (fun _ _ _ _ _ => (pe_call (ok_is_between T) hr rfl T.m_is_between T.F_is_between.kp T.b_is_between .nil pass0 (pa_cons (pv 2) (pa_cons pe_int (pa_cons (pe_op op_sub (pv 3) pe_int) pa_nil)))))) pa_nil))))), ?_⟩
    cases ot with
    | none =>
      obtain ⟨ty, hty, hk⟩ := hx
      exact ⟨_, rfl, _, _, _, _, false, rfl, .ty _, hty, hk, _, rfl, k _ exr⟩
    | some os =>
      obtain ⟨v, xs, rfl, hv, hl, hp⟩ := hx
      have lo : xs.length = os.length := Paired.length hp
      refine ⟨_, rfl, _, _, _, _, true, rfl, .ty _, .base (.tup hv), kit_ty (by decide +kernel), _, rfl, iteF ?_⟩
      refine ⟨_, rfl, v, _, rfl, .inr (SqT.of hv), _, rfl, a, _, dx, _, _, rfl, h1, T.cl_Table, T.n_Table_rings, rfl, t, _, rfl, .inr (SqT.of h2), rfl, _, rfl, ?_⟩
      by_cases c : os.length = ns.length
      · refine itf ?_ ?_
        · rw [List.length_map, lo, c]
          simp
        · refine ⟨_, rfl, _, rfl, a, _, dx, _, _, rfl, h1, T.cl_Table, T.n_Table_rings, rfl, [v, t], rfl, rfl, ?_, fun D hD => ?_⟩
          · intro p hp2
            rcases List.mem_cons.mp (show p ∈ [(true, v), (true, t)] from hp2) with e | e
            · rw [e]; exact ⟨xs, SqT.of hv⟩
            · rw [List.mem_singleton.mp e]; exact ⟨_, SqT.of h2⟩
          · have lv : (List.zipWith (fun o n => between o 0 (n - 1)) os ns).length = ns.length := by rw [List.length_zipWith, c, Nat.min_self]
            refine lc_vals (CZ.walk_rows (xss := [xs, ns.map V.int]) (n := ns.length) ?_) ((List.zipWith (fun o n => between o 0 (n - 1)) os ns).map V.bl) (by rw [List.length_map, lv]) (by omega) hD (fun H3 e => .cons (SqT.of (e _ _ hv)) (.cons (SqT.of (e _ _ h2)) .nil)) ?_ (gmono_tup (gmono_cons gmono_name (gmono_cons gmono_name gmono_nil))) ?_
            · intro ys hy
              rcases List.mem_cons.mp hy with e | e
              · rw [e, lo, c]
              · rw [List.mem_singleton.mp e, List.length_map]
            · intro i y H3 H4 R hi e yy kk
              obtain ⟨Ta, vs, rfl, hT, rfl, hr2⟩ := yy
              cases hr2 with
              | cons r1 hr2 =>
                cases hr2 with
                | cons r2 hr2 =>
                  cases hr2
                  obtain ⟨n, hn, rfl⟩ := map_get r2
                  obtain ⟨o, ho, hi2⟩ := paired_get hp r1
                  refine ⟨Ta, _, rfl, SqT.of upd_same, rfl, _, _, rfl, _, _, rfl, rfl, rfl, ?_⟩
                  refine ⟨_, rfl, _, rfl, _, _, rfl, rfl, _, o, 0, n - 1, rfl, hi2.mono (fun b u z => exn hT b u (e b u z)), ?_⟩
                  refine kk _ _ (exn hT) ?_
                  rw [List.getElem?_map, zip_get ho hn]
                  rfl
            · intro H3 e hD3
              refine ⟨D, _, rfl, SqL.of hD3, ?_⟩
              have es : isSeatO ns (some os) = (List.zipWith (fun o n => between o 0 (n - 1)) os ns).all id := by
                show (decide _ && _) = _
                rw [decide_eq_true c, Bool.true_and]
              rw [← es]
              exact k _ e
      · refine itt ?_ ?_
        · rw [List.length_map, lo]
          simp
          omega
        · have es : isSeatO ns (some os) = false := by
            show (decide _ && _) = _
            rw [decide_eq_false c, Bool.false_and]
          have := k _ exr
          rw [es] at this
          exact this
end

/-- what an argument is as a text -/
def StrA (K : PySem.W.Frag) (H : Hp) (x : V) : Option Str → Prop
  | some z => x = .str z
  | none => ∃ t, TyX K H x t ∧ PySem.W.kitOne K t (.type "str") = some false
def isDirO : Option Str → Bool
  | some z => decide (z = "forward") || decide (z = "backward")
  | none => false
theorem tup_ge {xs : List V} (h : xs.length ≤ 4) : xs.length ≤ sizeLine := Nat.le_trans h (by decide)
section
variable {P : Program} {w : World} {K : PySem.W.Frag} {mg : Str → Option Value} {base : Heap}
def sp_require_seat (K : PySem.W.Frag) (C : Addr) : Sp := fun vs H Q _ => ∃ (a : Addr) (x : V) (ns : List Int) (ot : Option (List (Option Int))), vs = [.ref a, x] ∧ TabAt C H a ns ∧ ns.length ≤ 4 ∧ TupA K H x ot ∧ isSeatO ns ot = true ∧ ∀ H2, Ex H H2 → Q .non H2
theorem ok_require_seat (T : TX K mg) : FnOk P w K mg base CX0 4 T.f_require_seat T.fd_require_seat ["table", "seat"] (sp_require_seat K T.C_Table) := by
  refine T.F_require_seat.ok sc_require_seat (fun vs H Q E h => ?_) (fun cdv A outer s H vs Q E hr h => ?_)
  · obtain ⟨a, x, ns, ot, rfl, _⟩ := h
    rfl
  · obtain ⟨a, x, ns, ot, rfl, ht, l4, hx, ok, k⟩ := h
    refine ⟨_, (pss_one (ps_if (pt_not (pt_val (pe_meth (pv 0) T.cl_Table T.me_Table_is_seat (ok_Table_is_seat T) hr T.b_Table_is_seat .nil pass0 (pa_cons (pv 1) pa_nil)))) pss_never pss_nil)), ?_⟩
    obtain ⟨dx, t, h1, h2⟩ := id ht
    refine ⟨_, rfl, a, dx, _, rfl, h1, rfl, _, rfl, a, x, ns, ot, rfl, ht, l4, hx, fun H2 e => ⟨_, rfl, itf (by rw [ok]; rfl) (k _ e)⟩⟩
end

/-- all but what is at s stays -/
def XB (s : Addr) (H H2 : Hp) : Prop := ∀ c o, c ≠ s → H c = some o → H2 c = some o
theorem XB.refl {s : Addr} {H : Hp} : XB s H H := fun _ _ _ h => h
theorem XB.trans {s : Addr} {H H1 H2 : Hp} (a : XB s H H1) (b : XB s H1 H2) : XB s H H2 := fun c o n h => b c o n (a c o n h)
theorem XB.upd {s : Addr} {H : Hp} {o : HO} : XB s H (upd H s o) := fun c u n h => by rw [upd_ne n]; exact h
theorem XB.of {s : Addr} {H H2 : Hp} (e : Ex H H2) : XB s H H2 := fun c o _ h => e c o h
theorem XB.back {s : Addr} {H H2 : Hp} (e : XB s H H2) {p : Addr} (hn : p ≠ s) (h : H2 p = none) : H p = none := by
  cases q : H p with
  | none => rfl
  | some o => rw [e p o hn q] at h; cases h
theorem mod_lo {i n : Int} (h : 0 < n) : 0 ≤ i % n := Int.emod_nonneg i (by omega)
theorem mod_hi {i n : Int} (h : 0 < n) : i % n < n := Int.emod_lt_of_pos i h

/-! ### data -/
mutual
theorem eqv_refl : ∀ d : PyData, d.canLay0 = true → PyData.eqv d d = true
  | .none, _ => by simp only [PyData.eqv]
  | .bool b, _ => by simp only [PyData.eqv, beq_self_eq_true]
  | .int i, _ => by simp only [PyData.eqv, beq_self_eq_true]
  | .str x, _ => by simp only [PyData.eqv, beq_self_eq_true]
  | .list xs, h => by
    simp only [PyData.canLay0] at h
    simp only [PyData.eqv]
    exact eqvAll_refl xs h
  | .tuple xs, h => by
    simp only [PyData.canLay0] at h
    simp only [PyData.eqv]
    exact eqvAll_refl xs h
  | .dict _, h => by simp [PyData.canLay0] at h
theorem eqvAll_refl : ∀ ds : List PyData, PyData.canLayAll0 ds = true → PyData.eqvAll ds ds = true
  | [], _ => by simp only [PyData.eqvAll]
  | d :: ds, h => by
    simp only [PyData.canLayAll0, Bool.and_eq_true] at h
    simp only [PyData.eqvAll, Bool.and_eq_true]
    exact ⟨eqv_refl d h.1, eqvAll_refl ds h.2⟩
end
/-- data of a depth below n, in a form that may be laid -/
def Sh (n : Nat) (d : PyData) : Prop := d.canLay0 = true ∧ d.depth ≤ n
theorem Sh.ok {d : PyData} (h : Sh 60 d) : SeqAt.shaped d = true := by
  unfold SeqAt.shaped
  rw [h.1, decide_eq_true (Nat.le_trans h.2 (by decide))]
  rfl
theorem sh_int {n : Nat} (i : Int) : Sh n (.int i) := ⟨by simp only [PyData.canLay0], by simp only [PyData.depth]; omega⟩
theorem sh_bool {n : Nat} (i : Bool) : Sh n (.bool i) := ⟨by simp only [PyData.canLay0], by simp only [PyData.depth]; omega⟩
theorem sh_none {n : Nat} : Sh n .none := ⟨by simp only [PyData.canLay0], by simp only [PyData.depth]; omega⟩
theorem sh_all {n : Nat} : ∀ {ds : List PyData}, (∀ d ∈ ds, Sh n d) → PyData.canLayAll0 ds = true ∧ PyData.depthAll ds ≤ n
  | [], _ => ⟨by simp only [PyData.canLayAll0], by simp only [PyData.depthAll]; omega⟩
  | d :: ds, h => by
    obtain ⟨h1, h2⟩ := h d List.mem_cons_self
    obtain ⟨g1, g2⟩ := sh_all fun x hx => h x (List.mem_cons_of_mem _ hx)
    refine ⟨by simp only [PyData.canLayAll0, h1, g1, Bool.and_self], ?_⟩
    simp only [PyData.depthAll]
    omega
theorem sh_tuple {n : Nat} {ds : List PyData} (h : ∀ d ∈ ds, Sh n d) : Sh (n + 1) (.tuple ds) := by
  obtain ⟨h1, h2⟩ := sh_all h
  exact ⟨by simp only [PyData.canLay0, h1], by simp only [PyData.depth]; omega⟩
theorem sh_list {n : Nat} {ds : List PyData} (h : ∀ d ∈ ds, Sh n d) : Sh (n + 1) (.list ds) := by
  obtain ⟨h1, h2⟩ := sh_all h
  exact ⟨by simp only [PyData.canLay0, h1], by simp only [PyData.depth]; omega⟩
theorem Sh.up {n m : Nat} {d : PyData} (h : Sh n d) (e : n ≤ m) : Sh m d := ⟨h.1, Nat.le_trans h.2 e⟩
/-- a tuple of ints -/
abbrev iT (ns : List Int) : PyData := .tuple (ns.map PyData.int)
theorem sh_ints {n : Nat} (ns : List Int) : Sh (n + 1) (iT ns) := sh_tuple fun d hd => by
  obtain ⟨i, _, rfl⟩ := List.mem_map.mp hd
  exact sh_int i
theorem dpall_ints {K : PySem.W.Frag} {H : Hp} : ∀ ns : List Int, DpAll K H (ns.map V.int) (ns.map PyData.int)
  | [] => .nil
  | n :: ns => .cons (.int n) (dpall_ints ns)
theorem dp_ints {K : PySem.W.Frag} {H : Hp} {a : Addr} {ns : List Int} (h : H a = some (.tup (ns.map V.int))) : Dp K H (.ref a) (iT ns) := .tup (SqT.of h) (dpall_ints ns)
theorem eqvAll_ints : ∀ ns ms : List Int, PyData.eqvAll (ns.map PyData.int) (ms.map PyData.int) = decide (ns = ms)
  | [], [] => by simp [PyData.eqvAll]
  | [], _ :: _ => by simp [PyData.eqvAll]
  | _ :: _, [] => by simp [PyData.eqvAll]
  | n :: ns, m :: ms => by
    have ih := eqvAll_ints ns ms
    simp only [List.map_cons, PyData.eqvAll, PyData.eqv, ih]
    by_cases h : n = m
    · subst h
      simp
    · have : (n == m) = false := by simpa using h
      rw [this]
      simp [h]
theorem eqv_ints (ns ms : List Int) : PyData.eqv (iT ns) (iT ms) = decide (ns = ms) := by
  simp only [PyData.eqv]
  exact eqvAll_ints ns ms
theorem sh_pair {n : Nat} {a b : PyData} (ha : Sh n a) (hb : Sh n b) : Sh (n + 1) (.tuple [a, b]) := sh_tuple fun d hd => by
  rcases List.mem_cons.mp hd with e | e
  · rw [e]; exact ha
  · rw [List.mem_singleton.mp e]; exact hb
theorem eqv_same {d : PyData} (h : Sh 60 d) : (!PyData.eqv d d) = false := by rw [eqv_refl d h.1]; rfl

/-! ### zip's rows, nested comprehensions, lists of tuples of ints -/
theorem yrow2 {xs ys : List V} {i : Nat} {H H2 : Hp} {x : V} (h : CZ.YRow [xs, ys] i H x H2) : ∃ (Ta : Addr) (a b : V), x = .ref Ta ∧ H Ta = none ∧ H2 = upd H Ta (.tup [a, b]) ∧ xs[i]? = some a ∧ ys[i]? = some b := by
  obtain ⟨Ta, vs, rfl, hT, rfl, r⟩ := h
  cases r with
  | cons r1 r =>
    cases r with
    | cons r2 r =>
      cases r
      exact ⟨Ta, _, _, rfl, hT, rfl, r1, r2⟩
theorem yrow3 {xs ys zs : List V} {i : Nat} {H H2 : Hp} {x : V} (h : CZ.YRow [xs, ys, zs] i H x H2) : ∃ (Ta : Addr) (a b c : V), x = .ref Ta ∧ H Ta = none ∧ H2 = upd H Ta (.tup [a, b, c]) ∧ xs[i]? = some a ∧ ys[i]? = some b ∧ zs[i]? = some c := by
  obtain ⟨Ta, vs, rfl, hT, rfl, r⟩ := h
  cases r with
  | cons r1 r =>
    cases r with
    | cons r2 r =>
      cases r with
      | cons r3 r =>
        cases r
        exact ⟨Ta, _, _, _, rfl, hT, rfl, r1, r2, r3⟩
theorem yints2 {xs ys : List Int} {i : Nat} {H H2 : Hp} {x : V} (h : CZ.YRow [xs.map V.int, ys.map V.int] i H x H2) : ∃ (Ta : Addr) (a b : Int), x = .ref Ta ∧ H Ta = none ∧ H2 = upd H Ta (.tup [.int a, .int b]) ∧ xs[i]? = some a ∧ ys[i]? = some b := by
  obtain ⟨Ta, a, b, rfl, hT, rfl, r1, r2⟩ := yrow2 h
  obtain ⟨p, hp, rfl⟩ := map_get r1
  obtain ⟨q, hq, rfl⟩ := map_get r2
  exact ⟨Ta, p, q, rfl, hT, rfl, hp, hq⟩
theorem yints3 {xs ys zs : List Int} {i : Nat} {H H2 : Hp} {x : V} (h : CZ.YRow [xs.map V.int, ys.map V.int, zs.map V.int] i H x H2) : ∃ (Ta : Addr) (a b c : Int), x = .ref Ta ∧ H Ta = none ∧ H2 = upd H Ta (.tup [.int a, .int b, .int c]) ∧ xs[i]? = some a ∧ ys[i]? = some b ∧ zs[i]? = some c := by
  obtain ⟨Ta, a, b, c, rfl, hT, rfl, r1, r2, r3⟩ := yrow3 h
  obtain ⟨p, hp, rfl⟩ := map_get r1
  obtain ⟨q, hq, rfl⟩ := map_get r2
  obtain ⟨r, hr, rfl⟩ := map_get r3
  exact ⟨Ta, p, q, r, rfl, hT, rfl, hp, hq, hr⟩
theorem all2 {K : PySem.W.Frag} {H : Hp} {p q : Bool × Addr} {xs ys : List V} (hp : CZ.SqK K H p xs) (hq : CZ.SqK K H q ys) : ∀ r ∈ [p, q], ∃ zs, CZ.SqK K H r zs := fun r hr => by
  rcases List.mem_cons.mp hr with e | hr
  · rw [e]; exact ⟨_, hp⟩
  · rw [List.mem_singleton.mp hr]; exact ⟨_, hq⟩
theorem all3 {K : PySem.W.Frag} {H : Hp} {p q t : Bool × Addr} {xs ys us : List V} (hp : CZ.SqK K H p xs) (hq : CZ.SqK K H q ys) (ht : CZ.SqK K H t us) : ∀ r ∈ [p, q, t], ∃ zs, CZ.SqK K H r zs := fun r hr => by
  rcases List.mem_cons.mp hr with e | hr
  · rw [e]; exact ⟨_, hp⟩
  · exact all2 hq ht r hr
theorem lens2 {xs ys : List V} {n : Nat} (h1 : xs.length = n) (h2 : ys.length = n) : ∀ zs ∈ [xs, ys], zs.length = n := fun zs hz => by
  rcases List.mem_cons.mp hz with e | hz
  · rw [e]; exact h1
  · rw [List.mem_singleton.mp hz]; exact h2
theorem lens3 {xs ys us : List V} {n : Nat} (h1 : xs.length = n) (h2 : ys.length = n) (h3 : us.length = n) : ∀ zs ∈ [xs, ys, us], zs.length = n := fun zs hz => by
  rcases List.mem_cons.mp hz with e | hz
  · rw [e]; exact h1
  · exact lens2 h2 h3 zs hz
theorem sqT {K : PySem.W.Frag} {H : Hp} {a : Addr} {xs : List V} (h : H a = some (.tup xs)) : CZ.SqK K H (true, a) xs := SqT.of h
theorem sqL {K : PySem.W.Frag} {H : Hp} {a : Addr} {xs : List V} (h : H a = some (.lst xs)) : CZ.SqK K H (false, a) xs := SqL.of h
section
variable {J : It} {n : Nat} {G : Hp → Prop} {Y : Nat → Hp → V → Hp → Prop}
/-- a comprehension of two loops: the outer -/
theorem lc2_it (w : Walk J n G Y) {g g1 : TG} {tt tt1 : TT} {te : TE} {wi1 : TI} {vs vs1 : List Nat} {σ : L2.St} {H1 : Hp} {D : Addr} {Qd : Hp → Prop} (Pv : Nat → Hp → Prop) (h0 : Pv 0 (upd H1 D (.lst []))) (hG : ∀ i H, i ≤ n → Pv i H → G H)
    (hs : ∀ i x H H2, i < n → Pv i H → Y i H x H2 → g x (wipe σ vs) H2 fun σ2 H2 => wipe σ2 vs = wipe σ vs ∧ tt σ2 H2 fun b H3 =>
      if b = true then wi1 σ2 H3 fun J1 H4 => ∃ W1 : Nat → Nat → Hp → Prop, (∃ m, W1 0 m H4) ∧ ∀ j k H, W1 j k H →
        (J1.stop j H ∧ Pv (i + 1) H) ∨ (J1.go j H ∧ ∃ Nx1 : Hp → Prop, (∀ H2, Nx1 H2 → ∃ k2, k2 < k ∧ W1 (j + 1) k2 H2) ∧ ∀ x H2, J1.yld j H x H2 → g1 x (wipe σ2 vs1) H2 fun σ3 H5 => wipe σ3 vs1 = wipe σ2 vs1 ∧ tt1 σ3 H5 fun b H6 =>
          if b = true then te σ3 H6 fun y H7 => ∃ acc, H7 D = some (.lst acc) ∧ acc.length < sizeLine ∧ Nx1 (upd H7 D (.lst (acc ++ [y]))) else Nx1 H6)
      else Pv (i + 1) H3) (hd : ∀ H, Pv n H → Qd H) :
    ∃ W : Nat → Nat → Hp → Prop, (∃ m, W 0 m (upd H1 D (.lst []))) ∧ ∀ i m H, W i m H →
      (J.stop i H ∧ Qd H) ∨ (J.go i H ∧ ∃ Nx : Hp → Prop, (∀ H2, Nx H2 → ∃ m2, m2 < m ∧ W (i + 1) m2 H2) ∧ ∀ x H2, J.yld i H x H2 → g x (wipe σ vs) H2 fun σ2 H2 => wipe σ2 vs = wipe σ vs ∧ tt σ2 H2 fun b H3 =>
        if b = true then wi1 σ2 H3 fun J1 H4 => ∃ W1 : Nat → Nat → Hp → Prop, (∃ m, W1 0 m H4) ∧ ∀ j k H, W1 j k H →
          (J1.stop j H ∧ Nx H) ∨ (J1.go j H ∧ ∃ Nx1 : Hp → Prop, (∀ H2, Nx1 H2 → ∃ k2, k2 < k ∧ W1 (j + 1) k2 H2) ∧ ∀ x H2, J1.yld j H x H2 → g1 x (wipe σ2 vs1) H2 fun σ3 H5 => wipe σ3 vs1 = wipe σ2 vs1 ∧ tt1 σ3 H5 fun b H6 =>
            if b = true then te σ3 H6 fun y H7 => ∃ acc, H7 D = some (.lst acc) ∧ acc.length < sizeLine ∧ Nx1 (upd H7 D (.lst (acc ++ [y]))) else Nx1 H6)
        else Nx H3) := by
  refine ⟨fun i m H => m = n - i ∧ i ≤ n ∧ Pv i H, ⟨n, by simp, Nat.zero_le _, h0⟩, ?_⟩
  rintro i m H ⟨rfl, hi, p⟩
  have q := hG i H hi p
  by_cases hlt : i < n
  · refine .inr ⟨w.goes i H hlt q, Pv (i + 1), fun H2 p2 => ⟨n - (i + 1), by omega, rfl, hlt, p2⟩, fun x H2 y => hs i x H H2 hlt p (w.yields i H x H2 hlt q y)⟩
  · have e : i = n := by omega
    subst e
    exact .inl ⟨w.stops H q, hd H p⟩
/-- .. the inner -/
theorem in_it (w : Walk J n G Y) {g1 : TG} {tt1 : TT} {te : TE} {vs1 : List Nat} {σ2 : L2.St} {H4 : Hp} {D : Addr} {Nx : Hp → Prop} (Pw : Nat → Hp → Prop) (h0 : Pw 0 H4) (hG : ∀ i H, i ≤ n → Pw i H → G H)
    (hs : ∀ j x H H2, j < n → Pw j H → Y j H x H2 → g1 x (wipe σ2 vs1) H2 fun σ3 H5 => wipe σ3 vs1 = wipe σ2 vs1 ∧ tt1 σ3 H5 fun b H6 =>
      if b = true then te σ3 H6 fun y H7 => ∃ acc, H7 D = some (.lst acc) ∧ acc.length < sizeLine ∧ Pw (j + 1) (upd H7 D (.lst (acc ++ [y]))) else Pw (j + 1) H6) (hd : ∀ H, Pw n H → Nx H) :
    ∃ W1 : Nat → Nat → Hp → Prop, (∃ m, W1 0 m H4) ∧ ∀ j k H, W1 j k H →
      (J.stop j H ∧ Nx H) ∨ (J.go j H ∧ ∃ Nx1 : Hp → Prop, (∀ H2, Nx1 H2 → ∃ k2, k2 < k ∧ W1 (j + 1) k2 H2) ∧ ∀ x H2, J.yld j H x H2 → g1 x (wipe σ2 vs1) H2 fun σ3 H5 => wipe σ3 vs1 = wipe σ2 vs1 ∧ tt1 σ3 H5 fun b H6 =>
        if b = true then te σ3 H6 fun y H7 => ∃ acc, H7 D = some (.lst acc) ∧ acc.length < sizeLine ∧ Nx1 (upd H7 D (.lst (acc ++ [y]))) else Nx1 H6) := by
  refine ⟨fun i m H => m = n - i ∧ i ≤ n ∧ Pw i H, ⟨n, by simp, Nat.zero_le _, h0⟩, ?_⟩
  rintro i m H ⟨rfl, hi, p⟩
  have q := hG i H hi p
  by_cases hlt : i < n
  · refine .inr ⟨w.goes i H hlt q, Pw (i + 1), fun H2 p2 => ⟨n - (i + 1), by omega, rfl, hlt, p2⟩, fun x H2 y => hs i x H H2 hlt p (w.yields i H x H2 hlt q y)⟩
  · have e : i = n := by omega
    subst e
    exact .inl ⟨w.stops H q, hd H p⟩
end
/-- refs of tuples of ints -/
def RowsR (H : Hp) (xs : List V) (hss : List (List Int)) : Prop := Paired (fun x hs => ∃ r, x = V.ref r ∧ H r = some (.tup (hs.map V.int))) xs hss
theorem RowsR.mono {H H2 : Hp} (e : Ex H H2) : ∀ {xs : List V} {hss : List (List Int)}, RowsR H xs hss → RowsR H2 xs hss
  | _, _, .nil => .nil
  | _, _, .cons ⟨r, h1, h2⟩ t => .cons ⟨r, h1, e _ _ h2⟩ (RowsR.mono e t)
theorem RowsR.snoc {H : Hp} {r : Addr} {hs : List Int} (h : H r = some (.tup (hs.map V.int))) : ∀ {xs : List V} {hss : List (List Int)}, RowsR H xs hss → RowsR H (xs ++ [.ref r]) (hss ++ [hs])
  | _, _, .nil => .cons ⟨r, rfl, h⟩ .nil
  | _, _, .cons q t => .cons q (RowsR.snoc h t)
theorem RowsR.app {H : Hp} {ys : List V} {kss : List (List Int)} (h : RowsR H ys kss) : ∀ {xs : List V} {hss : List (List Int)}, RowsR H xs hss → RowsR H (xs ++ ys) (hss ++ kss)
  | _, _, .nil => h
  | _, _, .cons q t => .cons q (RowsR.app h t)
theorem RowsR.len {H : Hp} : ∀ {xs : List V} {hss : List (List Int)}, RowsR H xs hss → xs.length = hss.length
  | _, _, .nil => rfl
  | _, _, .cons _ t => by rw [List.length_cons, List.length_cons, RowsR.len t]
theorem RowsR.get {H : Hp} : ∀ {xs : List V} {hss : List (List Int)} {i : Nat} {x : V}, RowsR H xs hss → xs[i]? = some x → ∃ hs r, hss[i]? = some hs ∧ x = V.ref r ∧ H r = some (.tup (hs.map V.int))
  | _, _, _, _, .nil, h => by simp at h
  | _, _, 0, _, .cons ⟨r, e, q⟩ _, h => by
    simp only [List.length_cons, Nat.zero_lt_succ, List.getElem?_eq_getElem, List.getElem_cons_zero, Option.some.injEq] at h
    subst h
    exact ⟨_, r, rfl, e, q⟩
  | _, _, i + 1, _, .cons _ t, h => by
    rw [List.getElem?_cons_succ] at h ⊢
    exact RowsR.get t h
theorem RowsR.dp {K : PySem.W.Frag} {H : Hp} : ∀ {xs : List V} {hss : List (List Int)}, RowsR H xs hss → DpAll K H xs (hss.map iT)
  | _, _, .nil => .nil
  | _, _, .cons ⟨r, e, q⟩ t => by
    subst e
    exact .cons (dp_ints q) (RowsR.dp t)
/-- a list of tuples of ints -/
def RowsAt (H : Hp) (D : Addr) (hss : List (List Int)) : Prop := ∃ xs, H D = some (.lst xs) ∧ RowsR H xs hss
theorem RowsAt.mono {H H2 : Hp} {D : Addr} {hss : List (List Int)} (e : Ex H H2) (h : RowsAt H D hss) : RowsAt H2 D hss := by
  obtain ⟨xs, h1, h2⟩ := h
  exact ⟨xs, e _ _ h1, h2.mono e⟩
theorem RowsAt.dp {K : PySem.W.Frag} {H : Hp} {D : Addr} {hss : List (List Int)} (h : RowsAt H D hss) : Dp K H (.ref D) (.list (hss.map iT)) := by
  obtain ⟨xs, h1, h2⟩ := h
  exact .lst (SqL.of h1) h2.dp
theorem sh_rows {n : Nat} (hss : List (List Int)) : Sh (n + 2) (.list (hss.map iT)) := sh_list fun d hd => by
  obtain ⟨hs, _, rfl⟩ := List.mem_map.mp hd
  exact sh_ints hs
theorem eqvAll_rows : ∀ ns ms : List (List Int), PyData.eqvAll (ns.map iT) (ms.map iT) = decide (ns = ms)
  | [], [] => by simp [PyData.eqvAll]
  | [], _ :: _ => by simp [PyData.eqvAll]
  | _ :: _, [] => by simp [PyData.eqvAll]
  | n :: ns, m :: ms => by
    have ih := eqvAll_rows ns ms
    simp only [List.map_cons, PyData.eqvAll, eqv_ints, ih]
    by_cases h : n = m
    · subst h
      simp
    · simp [h]
theorem eqv_rows (ns ms : List (List Int)) : PyData.eqv (.list (ns.map iT)) (.list (ms.map iT)) = decide (ns = ms) := by
  simp only [PyData.eqv]
  exact eqvAll_rows ns ms
theorem RowsR.upd {H : Hp} {D : Addr} {acc : List V} {o : HO} (hD : H D = some (.lst acc)) : ∀ {xs : List V} {hss : List (List Int)}, RowsR H xs hss → RowsR (upd H D o) xs hss
  | _, _, .nil => .nil
  | _, _, .cons ⟨r, h1, h2⟩ t => .cons ⟨r, h1, by rw [upd_ne (ne_of h2 hD (by intro z; cases z))]; exact h2⟩ (RowsR.upd hD t)
theorem rows_push {H : Hp} {D u : Addr} {hss : List (List Int)} {ks : List Int} (h : RowsAt H D hss) (hu : H u = some (.tup (ks.map V.int))) : ∃ acc, H D = some (.lst acc) ∧ acc.length = hss.length ∧ RowsAt (upd H D (.lst (acc ++ [.ref u]))) D (hss ++ [ks]) := by
  obtain ⟨xs, h1, h2⟩ := h
  refine ⟨xs, h1, h2.len, _, upd_same, ?_⟩
  exact RowsR.snoc (by rw [upd_ne (ne_of hu h1 (by intro z; cases z))]; exact hu) (h2.upd h1)
theorem ex_upd {H H2 : Hp} {D : Addr} {o : HO} (e : Ex H H2) (hD : H D = none) : Ex H (upd H2 D o) := fun c u z => by
  rw [upd_ne (ne_of_none z hD)]
  exact e c u z
theorem ext {H H1 H2 : Hp} (a : Ex H H1) (b : Ex H1 H2) : Ex H H2 := fun c o z => b c o (a c o z)

/-! ### tuple * int, from 1 on -/
theorem u65 {k : Nat} {A : Around} (r : Room k A) : A.units + 65 < cLine := by have := r.un; omega
theorem tuple_mul1 (l : Addr) (items : Array Value) (n : Nat) (dd : Option Addr) (sl : Array (Option Value)) (x : Int) (u : Tok) (c0 : (decide (x < -(2 ^ 63)) || decide (x ≥ 2 ^ 63)) = false) (c1 : (items.isEmpty || x == 1) = true) :
    Meets (Builtin.«tuple.__mul__» ⟨[.ref l, .int x u], []⟩) (fun _ R s => s.heap.get? l = some { cls := .type "tuple", dict := dd, data := .seq items n, slots := sl } ∧ R (.ok (.ret (Value.ref l))) s) :=
  .of_wp fun prog w A R s h => by
    obtain ⟨hp, g, d, tk, os⟩ := s
    obtain ⟨hl, h⟩ := h
    have f1 := AutoSeq1.idx_int
    wp_walk using wpAny_loadPart' hl
    repeat (first
      | (refine wpAny_ite_false (decide_eq_false (by rw [c0]; exact Bool.false_ne_true)) ?_; wp_walk using wpAny_loadPart' hl)
      | (refine wpAny_ite_true (decide_eq_true c1) ?_; wp_walk using wpAny_loadPart' hl))
    exact ⟨_, rfl, h⟩
def rRepA (K : PySem.W.Frag) : R2 := fun x y H Q => ∃ l k xs, x = .ref l ∧ y = .int k ∧ SqT K H l xs ∧ xs ≠ [] ∧ 1 ≤ k ∧ k ≤ 1000 ∧ xs.length ≤ 1000 ∧ (k = 1 → Q (.ref l) H) ∧ ∀ p, H p = none → Q (.ref p) (upd H p (.tup (List.replicate k.toNat xs).flatten))
theorem op_repA {X : Cx} : OpR X (binaryOp .Mult) (rRepA X.K) := by
  intro pins s σ H x y v u Q I rx ry h
  obtain ⟨l, k, xs, ex, ey, hT, hne, h1, h2, hz, q1, q⟩ := h
  by_cases hk : k = 1
  · subst ex ey hk
    cases rx
    obtain ⟨t, rfl⟩ := ry
    obtain ⟨its, r, ⟨⟨cls, dd, data, sl⟩, ho, hc, n, hd⟩, hs⟩ := I.tuple hT
    simp only at hc hd
    subst hc hd
    refine wpAny_binaryOp_repeat_ref (T := "tuple") (U := "int") (by decide) ⟨_, ho, rfl⟩ (fun s2 => typeIs_int s2 1 t) noFill_tuple_mul PySem.F.fills_int_mul PySem.F.slot_int_rmul repeat_tuple PySem.F.slot_int_index.lookup
      (call_meets PySem.F.slot_int_rmul (typeIs_int s 1 t) PySem.F.entry_int_rmul (PySem.F.args_int_rmul_2 _ _) (int_rmul_tuple 1 t l its.toArray n dd sl)
        ⟨ho, rfl, ⟨_, ho, rfl⟩, call_meets PySem.F.slot_tuple_mul ⟨_, ho, rfl⟩ PySem.F.entry_tuple_mul (PySem.F.args_tuple_mul_2 _ _) (tuple_mul1 l its.toArray n dd sl 1 t (by decide) (by simp)) ⟨ho, ?_⟩⟩)
    exact ⟨.ref l, H, I, rfl, q1 rfl⟩
  · exact op_repT pins s σ H x y v u Q I rx ry ⟨l, k, xs, ex, ey, hT, hne, by omega, h2, hz, q⟩
/-- (x,) * k -/
theorem rep_one (x : V) (k : Nat) : (List.replicate k [x]).flatten = List.replicate k x := by
  induction k with
  | zero => rfl
  | succ k ih => rw [List.replicate_succ, List.flatten_cons, ih, List.replicate_succ]; rfl
theorem rep_ints {K : PySem.W.Frag} {H : Hp} {Q : VK} {u : Addr} {x k : Int} (hu : H u = some (.tup [.int x])) (h1 : 1 ≤ k) (h2 : k ≤ 1000) (h : ∀ q H2, Ex H H2 → H2 q = some (.tup ((List.replicate k.toNat x).map V.int)) → Q (.ref q) H2) : rRepA K (.ref u) (.int k) H Q := by
  refine ⟨u, k, [.int x], rfl, rfl, SqT.of hu, (fun z => nomatch z), h1, h2, (by show 1 ≤ 1000; decide), fun e => ?_, fun p hp => ?_⟩
  · subst e
    exact h u H exr hu
  · refine h p _ (exn hp) ?_
    rw [upd_same, rep_one, List.map_replicate]
theorem ne_same {a b : List Int} (h : a = b) : (!PyData.eqv (iT a) (iT b)) = false := by rw [h]; exact eqv_same (sh_ints b)
/-- a comprehension over a tuple of ints, by a value each -/
theorem row_in {hss : List (List Int)} {ps : List Int} (h : ps ∈ hss) : ((hss.map iT).any fun z => PyData.eqv z (iT ps)) = true := by
  rw [List.any_eq_true]
  exact ⟨iT ps, List.mem_map.mpr ⟨ps, h, rfl⟩, by rw [eqv_ints]; simp⟩
/-- a list of ints -/
abbrev iL (ns : List Int) : PyData := .list (ns.map PyData.int)
theorem sh_ilist {n : Nat} (ns : List Int) : Sh (n + 1) (iL ns) := sh_list fun d hd => by
  obtain ⟨i, _, rfl⟩ := List.mem_map.mp hd
  exact sh_int i
theorem dp_ilist {K : PySem.W.Frag} {H : Hp} {a : Addr} {ns : List Int} (h : H a = some (.lst (ns.map V.int))) : Dp K H (.ref a) (iL ns) := .lst (SqL.of h) (dpall_ints ns)
theorem eqv_ilist (ns ms : List Int) : PyData.eqv (iL ns) (iL ms) = decide (ns = ms) := by
  simp only [PyData.eqv]
  exact eqvAll_ints ns ms
theorem dec_bl {a b : Bool} (h : a = b) : (!decide (V.bl a = V.bl b)) = false := by rw [h]; simp
theorem emod_eq_iff {a b n : Int} : a % n = b % n ↔ n ∣ a - b := by
  rw [Int.emod_eq_emod_iff_emod_sub_eq_zero, Int.dvd_iff_emod_eq_zero]
/-- behind an if that changes names alone -/
theorem ifs_cutS {c : TT} {t u : TS} {D : Ends} {σ : L2.St} {H : Hp} (R : L2.St → Prop) (hR : ∀ σ2, R σ2 → D.nx σ2 H) (h : ∀ N : L2.St → Hp → Prop, (∀ σ2, R σ2 → N σ2 H) → tIfS c t u { D with nx := N } σ H) : tIfS c t u D σ H :=
  h D.nx hR

/-- a comprehension that lengthens a row by each of ks -/
theorem lc_rows {J : It} {n : Nat} {G : Hp → Prop} {Y : Nat → Hp → V → Hp → Prop} (w : Walk J n G Y) {g : TG} {te : TE} {vs : List Nat} {σ : L2.St} {H1 : Hp} {D : Addr} {Qd : Hp → Prop} (row ks : List Int) (hn : ks.length = n) (hl : n ≤ 10000000) (hD : H1 D = none)
    (hG : ∀ H, Ex H1 H → G H)
    (hs : ∀ i x H H2 (R : VK), i < n → Ex H1 H → Y i H x H2 → (∀ k v H5, Ex H H5 → ks[i]? = some k → H5 v = some (.tup ((row ++ [k]).map V.int)) → R (.ref v) H5) → g x (wipe σ vs) H2 fun σ2 H3 => wipe σ2 vs = wipe σ vs ∧ te σ2 H3 R)
    (hg : ∀ x σ2 H2 (R R2 : L2.St → Hp → Prop), (∀ σ3 H3, R σ3 H3 → R2 σ3 H3) → g x σ2 H2 R → g x σ2 H2 R2)
    (hd : ∀ H, Ex H1 H → RowsAt H D (ks.map fun k => row ++ [k]) → Qd H) :
    ∃ W : Nat → Nat → Hp → Prop, (∃ m, W 0 m (upd H1 D (.lst []))) ∧ ∀ i m H, W i m H →
      (J.stop i H ∧ Qd H) ∨ (J.go i H ∧ ∃ Nx : Hp → Prop, (∀ H2, Nx H2 → ∃ m2, m2 < m ∧ W (i + 1) m2 H2) ∧ ∀ x H2, J.yld i H x H2 → g x (wipe σ vs) H2 fun σ2 H3 => wipe σ2 vs = wipe σ vs ∧ tYes σ2 H3 fun b H4 =>
        if b = true then te σ2 H4 fun y H5 => ∃ acc, H5 D = some (.lst acc) ∧ acc.length < sizeLine ∧ Nx (upd H5 D (.lst (acc ++ [y]))) else Nx H4) := by
  refine lc_it w (fun i H => Ex H1 H ∧ RowsAt H D ((ks.take i).map fun k => row ++ [k])) ⟨exn hD, _, upd_same, .nil⟩ (fun i H _ p => hG H p.1) (fun i x H H2 hi p y => ?_) (fun H p => hd H p.1 (by have := p.2; rwa [List.take_of_length_le (by rw [hn]; exact Nat.le_refl _)] at this))
  refine hg _ _ _ _ _ (fun σ3 H3 q => ⟨q.1, q.2⟩) (hs i x H H2 (fun y H5 => ∃ acc, H5 D = some (.lst acc) ∧ acc.length < sizeLine ∧ Ex H1 (upd H5 D (.lst (acc ++ [y]))) ∧ RowsAt (upd H5 D (.lst (acc ++ [y]))) D ((ks.take (i + 1)).map fun k => row ++ [k])) hi p.1 y fun k v H5 e hk hv => ?_)
  obtain ⟨acc, h1, h2, h3⟩ := rows_push (p.2.mono e) hv
  refine ⟨acc, h1, ?_, ex_upd (ext p.1 e) hD, ?_⟩
  · rw [h2, List.length_map, List.length_take]
    exact Nat.lt_of_le_of_lt (Nat.le_trans (Nat.min_le_right _ _) (by rw [hn]; exact hl)) (by decide)
  · rw [take_more hk, List.map_append]
    exact h3
/-- row + (k,) -/
theorem cat_row {K : PySem.W.Frag} {H : Hp} {Q : VK} {r u : Addr} {row : List Int} {k : Int} (hr : H r = some (.tup (row.map V.int))) (hu : H u = some (.tup [.int k])) (hl : row.length ≤ 1000) (h : ∀ v H5, Ex H H5 → H5 v = some (.tup ((row ++ [k]).map V.int)) → Q (.ref v) H5) : rCatA K (.ref r) (.ref u) H Q := by
  refine ⟨r, u, row.map V.int, [.int k], rfl, rfl, SqT.of hr, SqT.of hu, ?_, fun z => ?_, fun _ z => (nomatch z), fun _ _ v hv => ?_⟩
  · rw [List.length_map]
    exact Nat.le_trans (show _ + 1 ≤ 1001 by omega) (by decide)
  · have : row = [] := List.map_eq_nil_iff.mp z
    subst this
    exact h u H exr hu
  · refine h v _ (exn hv) ?_
    rw [upd_same, List.map_append]
    rfl
theorem rows_ext {H : Hp} {D E : Addr} {hss kss : List (List Int)} (h1 : RowsAt H D hss) (h2 : RowsAt H E kss) (ne : D ≠ E) : ∃ xs zs, H D = some (.lst xs) ∧ H E = some (.lst zs) ∧ xs.length = hss.length ∧ zs.length = kss.length ∧ RowsAt (upd H D (.lst (xs ++ zs))) D (hss ++ kss) := by
  obtain ⟨xs, a1, a2⟩ := h1
  obtain ⟨zs, b1, b2⟩ := h2
  exact ⟨xs, zs, a1, b1, a2.len, b2.len, _, upd_same, RowsR.app (b2.upd a1) (a2.upd a1)⟩

theorem eqT {i j : Int} (h : decide (V.int i = V.int j) = true) : i = j := V.int.inj (of_decide_eq_true h)
theorem eqF {i j : Int} (h : ¬decide (V.int i = V.int j) = true) : i ≠ j := fun z => h (decide_eq_true (by rw [z]))
/-- behind an if -/
theorem ifs_cutG {c : TT} {t u : TS} {D : Ends} {σ : L2.St} {H : Hp} (R : L2.St → Hp → Prop) (hR : ∀ σ2 H2, R σ2 H2 → D.nx σ2 H2) (h : ∀ N : L2.St → Hp → Prop, (∀ σ2 H2, R σ2 H2 → N σ2 H2) → tIfS c t u { D with nx := N } σ H) : tIfS c t u D σ H :=
  h D.nx hR
theorem exG {H H4 : Hp} {p : Addr} {o : HO} (h : upd H p o = H4) (n : H p = none) : Ex H H4 := h ▸ exn n
theorem atG {H H4 : Hp} {p : Addr} {o : HO} (h : upd H p o = H4) : H4 p = some o := h ▸ upd_same
theorem slen {n : Nat} (h : Nat.ble n 1000 = true) : n ≤ sizeLine := Nat.le_trans (Nat.le_of_ble_eq_true h) (by decide)
/-- a comprehension with a test: what passes, by f -/
theorem lc_filt {α : Type} {J : It} {n : Nat} {G : Hp → Prop} {Y : Nat → Hp → V → Hp → Prop} (w : Walk J n G Y) {g : TG} {tt : TT} {te : TE} {vs : List Nat} {σ : L2.St} {H1 : Hp} {D : Addr} {Qd : Hp → Prop} (xs : List α) (c : α → Bool) (f : α → V) (hn : xs.length = n) (hl : n ≤ 10000000) (hD : H1 D = none)
    (hG : ∀ H, Ex H1 H → G H)
    (hs : ∀ i x a H H2 (R : VK) (S : Hp → Prop), xs[i]? = some a → Ex H1 H → Y i H x H2 → (∀ y H5, Ex H H5 → c a = true → y = f a → R y H5) → (∀ H4, Ex H H4 → c a = false → S H4) → g x (wipe σ vs) H2 fun σ2 H3 => wipe σ2 vs = wipe σ vs ∧ tt σ2 H3 fun b H4 => if b = true then te σ2 H4 R else S H4)
    (hd : ∀ H, Ex H1 H → H D = some (.lst ((xs.filter c).map f)) → Qd H) :
    ∃ W : Nat → Nat → Hp → Prop, (∃ m, W 0 m (upd H1 D (.lst []))) ∧ ∀ i m H, W i m H →
      (J.stop i H ∧ Qd H) ∨ (J.go i H ∧ ∃ Nx : Hp → Prop, (∀ H2, Nx H2 → ∃ m2, m2 < m ∧ W (i + 1) m2 H2) ∧ ∀ x H2, J.yld i H x H2 → g x (wipe σ vs) H2 fun σ2 H3 => wipe σ2 vs = wipe σ vs ∧ tt σ2 H3 fun b H4 =>
        if b = true then te σ2 H4 fun y H5 => ∃ acc, H5 D = some (.lst acc) ∧ acc.length < sizeLine ∧ Nx (upd H5 D (.lst (acc ++ [y]))) else Nx H4) := by
  refine lc_out w (fun i => ((xs.take i).filter c).map f) (by simp) hD (fun i hi => ?_) hG (fun i x H H2 Nx hi e hDi y kA kN => ?_) (fun H e h => hd H e ?_)
  · rw [List.length_map]
    refine Nat.lt_of_le_of_lt (Nat.le_trans (List.length_filter_le _ _) (Nat.le_trans (by rw [List.length_take]; exact Nat.min_le_right _ _) (by rw [hn]; exact hl))) (by decide)
  · obtain ⟨a, ha⟩ : ∃ a, xs[i]? = some a := ⟨xs[i]'(by omega), List.getElem?_eq_getElem (by omega)⟩
    refine hs i x a H H2 _ _ ha e y (fun y2 H5 e5 hc hy => kA y2 H5 e5 ?_) (fun H4 e4 hc => kN H4 e4 ?_)
    · rw [take_more ha, List.filter_append, List.map_append, hy]
      simp [hc]
    · rw [take_more ha, List.filter_append, List.map_append]
      simp [hc]
  · rw [h, List.take_of_length_le (by rw [hn]; exact Nat.le_refl _)]
/-- rows that pass a test -/
theorem RowsR.filt {H : Hp} (c : List Int → Bool) : ∀ {xs : List V} {hss : List (List Int)}, RowsR H xs hss → RowsR H (((xs.zip hss).filter fun z => c z.2).map fun z => z.1) (hss.filter c)
  | _, _, .nil => .nil
  | _, _, .cons (a := x) (b := hs) q t => by
    have ih := RowsR.filt c t
    rw [List.zip_cons_cons]
    cases e : c hs with
    | false =>
      rw [List.filter_cons_of_neg (by simp [e]), List.filter_cons_of_neg (by simp [e])]
      exact ih
    | true =>
      rw [List.filter_cons_of_pos (by simp [e]), List.filter_cons_of_pos (by simp [e])]
      exact .cons q ih
theorem zip_at2 {α β : Type} {l : List α} {m : List β} {i : Nat} {z : α × β} (h : (l.zip m)[i]? = some z) : l[i]? = some z.1 ∧ m[i]? = some z.2 := by
  rw [List.getElem?_zip_eq_some] at h
  exact h
/-- tuple(s), s a list or a tuple -/
theorem tup_of {K : PySem.W.Frag} {H : Hp} {q : Bool × Addr} {xs : List V} {Q : VK} (h : SqH H q xs) (k : ∀ t H2, Ex H H2 → H2 t = some (.tup xs) → Q (.ref t) H2) : (SqL K H q.2 xs ∧ ∀ p, H p = none → Q (.ref p) (upd H p (.tup xs))) ∨ SqT K H q.2 xs ∧ Q (.ref q.2) H := by
  obtain ⟨b, a⟩ := q
  cases b
  · exact .inl ⟨SqL.of (show H a = some (.lst xs) from h), fun p hp => k p _ (exn hp) upd_same⟩
  · exact .inr ⟨SqT.of (show H a = some (.tup xs) from h), k a H exr h⟩
def rTupQ : List V → Hp → VK → Prop := fun vs H Q => ∃ (q : Bool × Addr) (xs : List V), vs = [.ref q.2] ∧ SqH H q xs ∧ ∀ t H2, Ex H H2 → H2 t = some (.tup xs) → Q (.ref t) H2
theorem call_tuple_q {X : Cx} : CallR X (.type "tuple") rTupQ := by
  intro pins s σ H vs us Q I r h
  obtain ⟨q, xs, rfl, hq, k⟩ := h
  exact call_tuple_of pins s σ H _ us Q I r ⟨q.2, xs, rfl, tup_of hq k⟩
theorem SqH.uniq {H : Hp} {q : Bool × Addr} {xs ys : List V} (h1 : SqH H q xs) (h2 : SqH H q ys) : xs = ys := by
  obtain ⟨b, a⟩ := q
  cases b
  · have e : some (HO.lst xs) = some (HO.lst ys) := (show H a = some (.lst xs) from h1).symm.trans (show H a = some (.lst ys) from h2)
    injection e with e
    injection e
  · have e : some (HO.tup xs) = some (HO.tup ys) := (show H a = some (.tup xs) from h1).symm.trans (show H a = some (.tup ys) from h2)
    injection e with e
    injection e
theorem RowsR.monoT {H H2 : Hp} (e : ∀ c xs, H c = some (.tup xs) → H2 c = some (.tup xs)) : ∀ {xs : List V} {hss : List (List Int)}, RowsR H xs hss → RowsR H2 xs hss
  | _, _, .nil => .nil
  | _, _, .cons ⟨r, h1, h2⟩ t => .cons ⟨r, h1, e _ _ h2⟩ (RowsR.monoT e t)

theorem shift_back {f : Int} : ∀ {ns ps cs : List Int}, SeatOk ns ps → cs.length = ns.length → shiftL ns (shiftL ns ps cs f) cs (-f) = ps
  | [], [], [], _, _ => rfl
  | n :: ns, p :: ps, c :: cs, h, l => by
    show ((p + f * c) % n + -f * c) % n :: _ = _
    rw [shift_back h.2 (Nat.succ.inj l), Int.emod_add_emod, Int.neg_mul, Int.add_neg_cancel_right, Int.emod_eq_of_lt h.1.1 h.1.2]
theorem shift_neg {f : Int} : ∀ {ns ps cs : List Int}, shiftL ns ps (cs.map fun c => 0 - c) f = shiftL ns ps cs (-f)
  | [], _, _ => by cases ‹List Int› <;> simp [shiftL]
  | _ :: _, [], _ => by simp [shiftL]
  | _ :: _, _ :: _, [] => by simp [shiftL]
  | n :: ns, p :: ps, c :: cs => by
    show (p + f * (0 - c)) % n :: _ = (p + -f * c) % n :: _
    rw [shift_neg, Int.zero_sub, Int.mul_neg, Int.neg_mul]
theorem shift_comm {f g : Int} : ∀ {ns ps cs ds : List Int}, ps.length = ns.length → cs.length = ns.length → ds.length = ns.length → shiftL ns (shiftL ns ps cs f) ds g = shiftL ns (shiftL ns ps ds g) cs f
  | [], [], [], [], _, _, _ => rfl
  | n :: ns, p :: ps, c :: cs, d :: ds, l1, l2, l3 => by
    show ((p + f * c) % n + g * d) % n :: _ = ((p + g * d) % n + f * c) % n :: _
    rw [shift_comm (Nat.succ.inj l1) (Nat.succ.inj l2) (Nat.succ.inj l3), Int.emod_add_emod, Int.emod_add_emod, Int.add_right_comm]
theorem shift_seat {f : Int} : ∀ {ns ps cs : List Int}, (∀ n ∈ ns, 1 ≤ n) → ps.length = ns.length → cs.length = ns.length → SeatOk ns (shiftL ns ps cs f)
  | [], [], [], _, _, _ => True.intro
  | n :: ns, p :: ps, c :: cs, h, l1, l2 => by
    have n1 := h n List.mem_cons_self
    exact ⟨⟨Int.emod_nonneg _ (by omega), Int.emod_lt_of_pos _ (by omega)⟩, shift_seat (fun m hm => h m (List.mem_cons_of_mem _ hm)) (Nat.succ.inj l1) (Nat.succ.inj l2)⟩
theorem shift_same {f g : Int} : ∀ {ns ps cs : List Int}, ps.length = ns.length → cs.length = ns.length → (shiftL ns ps cs f = shiftL ns ps cs g ↔ ∀ z ∈ cs.zip ns, z.2 ∣ (f - g) * z.1)
  | [], [], [], _, _ => by simp [shiftL]
  | n :: ns, p :: ps, c :: cs, l1, l2 => by
    have e : p + f * c - (p + g * c) = (f - g) * c := by rw [Int.sub_mul]; omega
    show (p + f * c) % n :: _ = (p + g * c) % n :: _ ↔ _
    rw [List.cons.injEq, shift_same (Nat.succ.inj l1) (Nat.succ.inj l2), emod_eq_iff, e, List.zip_cons_cons, List.forall_mem_cons]
theorem shift_zero : ∀ {ns ps cs : List Int}, SeatOk ns ps → cs.length = ns.length → shiftL ns ps cs 0 = ps
  | [], [], [], _, _ => rfl
  | n :: ns, p :: ps, c :: cs, h, l => by
    show (p + 0 * c) % n :: _ = _
    rw [shift_zero h.2 (Nat.succ.inj l), Int.zero_mul, Int.add_zero, Int.emod_eq_of_lt h.1.1 h.1.2]
/-- a call times k -/
theorem shift_times {k : Int} : ∀ {ns ps cs : List Int}, shiftL ns ps (cs.map fun c => c * k) 1 = shiftL ns ps cs k
  | [], _, _ => by cases ‹List Int› <;> simp [shiftL]
  | _ :: _, [], _ => by simp [shiftL]
  | _ :: _, _ :: _, [] => by simp [shiftL]
  | n :: ns, p :: ps, c :: cs => by
    show (p + 1 * (c * k)) % n :: _ = (p + k * c) % n :: _
    rw [shift_times, Int.one_mul, Int.mul_comm c]
theorem zero_seat : ∀ {ns : List Int}, (∀ n ∈ ns, 1 ≤ n) → SeatOk ns (List.replicate ns.length 0)
  | [], _ => True.intro
  | n :: ns, h => ⟨⟨Int.le_refl _, by have := h n List.mem_cons_self; omega⟩, zero_seat fun m hm => h m (List.mem_cons_of_mem _ hm)⟩

/-- Table(..) -/
theorem mk_tab {C a : Addr} {b : Bool} {H : Hp} {ns : List Int} {R : Addr → Hp → Prop} {E : XK} (hq : SqH H (b, a) (ns.map V.int)) (ok : SzOk ns) (k : ∀ x H2, Ex H H2 → H x = none → TabAt C H2 x ns → R x H2) :
    ∀ x dx, H x = none → H dx = none → dx ≠ x → sp_Table_init C [.ref x, .ref a] (upd (upd H dx (.own x)) x (.ins C dx [])) (fun v H2 => v = .non ∧ R x H2) E := by
  intro x dx nx ndx _
  have exB : Ex H (upd (upd H dx (.own x)) x (.ins C dx [])) := fun c o z => by
    rw [upd_ne (ne_of_none z nx), upd_ne (ne_of_none z ndx)]
    exact z
  refine ⟨x, dx, (b, a), ns, rfl, upd_same, hq.mono exB, ok, fun H3 k3 ht3 => ⟨rfl, ?_⟩⟩
  obtain ⟨t, g1, g2⟩ := ht3
  exact k x H3 (fun c o z => k3 c o (ne_of_none z nx) (exB c o z)) nx ⟨dx, t, g1, g2⟩
theorem eqN {i j : Int} (h : ¬(!decide (V.int i = V.int j)) = true) : i = j := by
  by_cases e : i = j
  · exact e
  · exact absurd (by simp [e]) h
/-! ### lists and tuples alike -/
theorem cut_from (xs : List V) (k : Nat) : cutV xs (some (k : Int)) none = xs.drop k := by
  unfold cutV
  rw [HT.sIx_nat, HT.sIx_none]
  by_cases h : k ≤ xs.length
  · rw [Nat.min_eq_left h]
    exact List.take_of_length_le (by rw [List.length_drop]; omega)
  · rw [Nat.min_eq_right (by omega), List.drop_of_length_le (Nat.le_refl _), List.drop_of_length_le (by omega)]
    simp
theorem cut_to (xs : List V) (k : Nat) : cutV xs none (some (k : Int)) = xs.take k := by
  unfold cutV
  rw [HT.sIx_nat, HT.sIx_none, List.drop_zero, Nat.sub_zero]
  by_cases h : k ≤ xs.length
  · rw [Nat.min_eq_left h]
  · rw [Nat.min_eq_right (by omega), List.take_of_length_le (Nat.le_refl _), List.take_of_length_le (by omega)]
theorem cut_whole {xs : List V} {lo hi : Option Int} (h : HT.sIx xs.length 0 lo = 0 ∧ HT.sIx xs.length xs.length hi = xs.length) : cutV xs lo hi = xs := by
  unfold cutV
  rw [h.1, h.2, List.drop_zero, Nat.sub_zero, List.take_of_length_le (Nat.le_refl _)]
def rIxQ (K : PySem.W.Frag) : R2 := fun x y H Q => ∃ (q : Bool × Addr) (xs : List V) (i : Int) (v : V), x = .ref q.2 ∧ y = .int i ∧ CZ.SqK K H q xs ∧ atI xs i = some v ∧ Q v H
theorem ix_q {X : Cx} : IxR X (rIxQ X.K) := by
  intro value slice pins s σ H x y v u Q I rx ry h hsub
  obtain ⟨⟨b, a⟩, xs, i, z, rfl, rfl, hq, hz, q⟩ := h
  cases b
  · exact ix_list value slice pins s σ H _ _ v u Q I rx ry ⟨a, xs, i, z, rfl, rfl, hq, hz, q⟩ hsub
  · exact ix_tup value slice pins s σ H _ _ v u Q I rx ry ⟨a, xs, i, z, rfl, rfl, hq, hz, q⟩ hsub
def rSlQ : V → Option Int → Option Int → Hp → VK → Prop := fun x lo hi H Q => ∃ (q : Bool × Addr) (xs : List V), x = .ref q.2 ∧ SqH H q xs ∧ ∀ p H2, Ex H H2 → SqH H2 (q.1, p) (cutV xs lo hi) → Q (.ref p) H2
theorem sl_q {X : Cx} : SlR X rSlQ := by
  intro pins s σ H x v vl vu lo hi sl Q I rx hs pl pu h
  obtain ⟨⟨b, a⟩, xs, rfl, hq, k⟩ := h
  cases b
  · exact sl_list pins s σ H _ v vl vu lo hi sl Q I rx hs pl pu ⟨a, xs, rfl, SqL.of (show H a = some (.lst xs) from hq), fun p hp => k p _ (exn hp) upd_same⟩
  · exact sl_tupA pins s σ H _ v vl vu lo hi sl Q I rx hs pl pu ⟨a, xs, rfl, SqT.of (show H a = some (.tup xs) from hq), fun hw => k a H exr (by rw [cut_whole hw]; exact hq), fun _ p hp => k p _ (exn hp) upd_same⟩

/-- the greatest common divisor -/
abbrev gcdI (a b : Int) : Int := ((Int.gcd a b : Nat) : Int)
theorem gcd_pos2 {p n : Int} (h : 1 ≤ n) : 0 < Int.gcd p n := Int.gcd_pos_of_ne_zero_right _ (by omega)
theorem gcd_turn {a b : Int} (hb : b ≠ 0) : Int.gcd b (a % b) = Int.gcd a b := by
  rw [Int.gcd_comm b, Int.emod_def, Int.sub_eq_add_neg, ← Int.mul_neg, Int.gcd_add_mul_left_left]
theorem abs45 {n : Int} (h1 : 0 ≤ n) (h2 : n ≤ 10 ^ 45) : n.natAbs < 2 ^ 150 := by
  have h5 : (10 : Int) ^ 45 < 2 ^ 150 := by decide
  have h8 : ((2 ^ 150 : Nat) : Int) = (2 : Int) ^ 150 := by simp
  omega
section
variable {P : Program} {w : World} {K : PySem.W.Frag} {mg : Str → Option Value} {base : Heap}
def sp_greatest_common_divisor : Sp := fun vs H Q _ => ∃ a b : Int, vs = [.int a, .int b] ∧ 0 ≤ a ∧ 0 ≤ b ∧ Q (.int (gcdI a b)) H
theorem ok_greatest_common_divisor (T : TX K mg) : FnOk P w K mg base CX0 1 T.f_greatest_common_divisor T.fd_greatest_common_divisor ["first", "second"] sp_greatest_common_divisor := by
  refine T.F_greatest_common_divisor.ok sc_greatest_common_divisor (fun vs H Q E h => ?_) (fun cdv A outer s H vs Q E hr h => ?_)
  · obtain ⟨a, b, rfl, _⟩ := h
    rfl
  · obtain ⟨a0, b0, rfl, h1, h2, k⟩ := h
    refine ⟨_, (pss_cons (ps_while PassesOwn.never (pt_cmpR op_ne (pv 1) pe_int (nomark _)) (pss_one (ps_par (i := 0) (j := 1) rfl sc_greatest_common_divisor.nd rfl rfl (by decide) rfl rfl (pa_cons (pv 1) (pa_cons (pe_op op_mod (pv 0) (pv 1)) pa_nil)) (by rfl)))) (pss_one (ps_ret (pe_callB call_abs (by rfl) T.z_abs (by decide +kernel) (pa_cons (pv 0) pa_nil))))), ?_⟩
    refine ⟨fun m σ H2 => ∃ a b : Int, σ = [some (.int a), some (.int b)] ∧ H2 = H ∧ 0 ≤ a ∧ 0 ≤ b ∧ Int.gcd a b = Int.gcd a0 b0 ∧ m = b.toNat, ⟨_, a0, b0, rfl, rfl, h1, h2, rfl, rfl⟩, ?_⟩
    rintro m σ _ ⟨a, b, rfl, rfl, ha, hb, hg, rfl⟩
    refine ⟨_, rfl, rfl, _, rfl, ?_⟩
    by_cases hz : b = 0
    · subst hz
      refine itf (by simp) ⟨_, rfl, a, rfl, ?_⟩
      rw [if_neg (by omega)]
      have e : (Int.gcd a 0 : Nat) = a.natAbs := by simp
      have e2 : gcdI a0 b0 = a := by
        show ((Int.gcd a0 b0 : Nat) : Int) = a
        rw [← hg, e]
        omega
      rw [e2] at k
      exact k
    · refine itt (by rw [dec_int]; simp [hz]) ⟨_, fun _ _ h => h, ?_⟩
      have q1 := Int.emod_lt_of_pos a (show 0 < b by omega)
      have q2 := Int.emod_nonneg a hz
      exact ⟨_, rfl, _, rfl, _, rfl, _, _, rfl, rfl, (by show 0 < b; omega), _, _, rfl, _, (by show (a % b).toNat < b.toNat; omega), _, _, rfl, rfl, hb, q2, by rw [gcd_turn hz, hg], rfl⟩
end

/-! ### the order of a seat -/
def perN (p n : Int) : Nat := n.natAbs / Int.gcd p n
def ordF (zs : List (Int × Int)) : Nat := zs.foldl (fun l z => Nat.lcm l (perN z.1 z.2)) 1
theorem per_int {p n : Int} (h : 1 ≤ n) : n / gcdI p n = (perN p n : Int) := by
  have e : (n.natAbs : Int) = n := Int.natAbs_of_nonneg (by omega)
  unfold perN
  rw [Int.natCast_ediv, e]
theorem per_pos {p n : Int} (h : 1 ≤ n) : 0 < perN p n := by
  unfold perN
  refine Nat.div_pos ?_ (gcd_pos2 h)
  have := Int.gcd_dvd_right p n
  have h2 : (Int.gcd p n : Int) ≤ n := Int.le_of_dvd (by omega) this
  omega
theorem per_le {p n : Int} : perN p n ≤ n.natAbs := Nat.div_le_self _ _
theorem lcm_int {l m : Nat} : (l : Int) / gcdI l m * m = ((Nat.lcm l m : Nat) : Int) := by
  show (l : Int) / ((Nat.gcd l m : Nat) : Int) * m = _
  rw [← Int.natCast_ediv, ← Int.natCast_mul, Nat.lcm, Nat.div_mul_right_comm (Nat.gcd_dvd_left l m)]
theorem ord_snoc (zs : List (Int × Int)) (z : Int × Int) : ordF (zs ++ [z]) = Nat.lcm (ordF zs) (perN z.1 z.2) := by
  unfold ordF
  rw [List.foldl_append]
  rfl
theorem lcm_fold : ∀ {zs : List (Int × Int)} {a B : Nat}, 0 < a → (∀ z ∈ zs, 1 ≤ z.2 ∧ z.2.natAbs ≤ B) → 0 < zs.foldl (fun l z => Nat.lcm l (perN z.1 z.2)) a ∧ zs.foldl (fun l z => Nat.lcm l (perN z.1 z.2)) a ≤ a * B ^ zs.length
  | [], a, B, h, _ => by simp; exact h
  | z :: zs, a, B, h, hz => by
    have h1 := hz z List.mem_cons_self
    have h2 : 0 < Nat.lcm a (perN z.1 z.2) := Nat.lcm_pos h (per_pos h1.1)
    obtain ⟨g1, g2⟩ := lcm_fold (zs := zs) (B := B) h2 fun y hy => hz y (List.mem_cons_of_mem _ hy)
    refine ⟨g1, Nat.le_trans g2 ?_⟩
    have h3 : Nat.lcm a (perN z.1 z.2) ≤ a * B := Nat.le_trans (Nat.div_le_self _ _) (Nat.mul_le_mul_left _ (Nat.le_trans per_le h1.2))
    calc _ ≤ a * B * B ^ zs.length := Nat.mul_le_mul_right _ h3
      _ = a * B ^ (zs.length + 1) := by rw [Nat.pow_succ, Nat.mul_assoc, Nat.mul_comm B]
theorem ord_ok {zs : List (Int × Int)} (h : ∀ z ∈ zs, 1 ≤ z.2 ∧ z.2 ≤ 10 ^ 45) (hl : zs.length ≤ 4) : 0 < ordF zs ∧ ordF zs < 2 ^ 600 := by
  obtain ⟨g1, g2⟩ := lcm_fold (zs := zs) (a := 1) (B := 10 ^ 45) (by decide) fun z hz => ⟨(h z hz).1, by
    have := h z hz
    have e : ((10 ^ 45 : Nat) : Int) = (10 : Int) ^ 45 := by simp
    omega⟩
  refine ⟨g1, Nat.lt_of_le_of_lt g2 ?_⟩
  rw [Nat.one_mul]
  exact Nat.lt_of_le_of_lt (Nat.pow_le_pow_right (by decide) hl) (by decide +kernel)
theorem zip_at {α β : Type} {l : List α} {m : List β} {i : Nat} {x : α} {y : β} (h1 : l[i]? = some x) (h2 : m[i]? = some y) : (l.zip m)[i]? = some (x, y) := by
  rw [List.getElem?_zip_eq_some]
  exact ⟨h1, h2⟩
theorem zip_len {α β : Type} {l : List α} {m : List β} {n : Nat} (h1 : l.length = n) (h2 : m.length = n) : (l.zip m).length = n := by
  rw [List.length_zip, h1, h2, Nat.min_self]
theorem zip_take_len {α β : Type} {l : List α} {m : List β} {n : Nat} (h1 : l.length = n) (h2 : m.length = n) : (l.zip m).take n = l.zip m := List.take_of_length_le (by rw [zip_len h1 h2]; exact Nat.le_refl _)
/-- sizes that are not too long -/
abbrev SzB (ns : List Int) : Prop := ∀ n ∈ ns, n ≤ 10 ^ 45
theorem SeatOk.at : ∀ {ns ps : List Int} {i : Nat} {n p : Int}, SeatOk ns ps → ns[i]? = some n → ps[i]? = some p → 0 ≤ p ∧ p < n
  | [], [], _, _, _, _, h, _ => by simp at h
  | n :: ns, p :: ps, 0, _, _, h, h1, h2 => by
    simp at h1 h2
    subst h1 h2
    exact h.1
  | n :: ns, p :: ps, i + 1, _, _, h, h1, h2 => by
    rw [List.getElem?_cons_succ] at h1 h2
    exact SeatOk.at h.2 h1 h2
theorem zip_bound {ns ps : List Int} (ok : SzOk ns) (hB : SzB ns) (i : Nat) : ∀ z ∈ (ps.zip ns).take i, 1 ≤ z.2 ∧ z.2 ≤ 10 ^ 45 := fun z hz => by
  have := (List.of_mem_zip (show (z.1, z.2) ∈ ps.zip ns from List.mem_of_mem_take hz)).2
  exact ⟨ok.one _ this, hB _ this⟩
theorem abs_succ {n : Int} (h : n.natAbs < 2 ^ 150) : (n + 1).natAbs < 2 ^ 151 := by
  have : (2 : Nat) ^ 151 = 2 * 2 ^ 150 := by decide +kernel
  omega
/-- the halves of a place -/
def halfL (p n : Int) : List Int := if n % 2 = 1 then [p * (n + 1) / 2 % n] else if p % 2 = 0 then [p / 2, (p + n) / 2] else []
theorem halfL_def (p n : Int) : halfL p n = if n % 2 = 1 then [p * (n + 1) / 2 % n] else if p % 2 = 0 then [p / 2, (p + n) / 2] else [] := rfl
/-- .. of a seat -/
def crossL (hss : List (List Int)) (ks : List Int) : List (List Int) := hss.flatMap fun hs => ks.map fun k => hs ++ [k]
def halvesF (zs : List (Int × Int)) : List (List Int) := zs.foldl (fun hss z => crossL hss (halfL z.1 z.2)) [[]]
theorem halves_snoc (zs : List (Int × Int)) (z : Int × Int) : halvesF (zs ++ [z]) = crossL (halvesF zs) (halfL z.1 z.2) := by
  unfold halvesF
  rw [List.foldl_append]
  rfl
theorem cross_snoc (hss : List (List Int)) (hs ks : List Int) : crossL (hss ++ [hs]) ks = crossL hss ks ++ ks.map fun k => hs ++ [k] := by
  unfold crossL
  rw [List.flatMap_append]
  simp
theorem cross_len (ks : List Int) : ∀ hss : List (List Int), (crossL hss ks).length = hss.length * ks.length
  | [] => by simp [crossL]
  | h :: hss => by
    have ih := cross_len ks hss
    unfold crossL at ih ⊢
    rw [List.flatMap_cons, List.length_append, ih, List.length_map, List.length_cons, Nat.succ_mul, Nat.add_comm]
theorem half_len (p n : Int) : (halfL p n).length ≤ 2 := by
  unfold halfL
  split
  · simp
  · split <;> simp
theorem halves_len : ∀ (zs : List (Int × Int)) (hss : List (List Int)), (zs.foldl (fun hss z => crossL hss (halfL z.1 z.2)) hss).length ≤ hss.length * 2 ^ zs.length
  | [], hss => by simp
  | z :: zs, hss => by
    refine Nat.le_trans (halves_len zs _) ?_
    rw [cross_len, List.length_cons, Nat.pow_succ, Nat.mul_comm (2 ^ zs.length), ← Nat.mul_assoc]
    exact Nat.mul_le_mul_right _ (Nat.mul_le_mul_left _ (half_len _ _))
theorem halves_few {zs : List (Int × Int)} (h : zs.length ≤ 4) : (halvesF zs).length ≤ 16 := by
  have := halves_len zs [[]]
  refine Nat.le_trans this ?_
  rw [List.length_singleton, Nat.one_mul]
  exact Nat.pow_le_pow_right (by decide) h
theorem halves_rows : ∀ (zs : List (Int × Int)) (hss : List (List Int)) (m : Nat), (∀ hs ∈ hss, hs.length = m) → ∀ hs ∈ zs.foldl (fun hss z => crossL hss (halfL z.1 z.2)) hss, hs.length = m + zs.length
  | [], hss, m, h => h
  | z :: zs, hss, m, h => fun hs hh => by
    have := halves_rows zs (crossL hss (halfL z.1 z.2)) (m + 1) (fun ks hk => ?_) hs hh
    · rw [this, List.length_cons]
      omega
    · obtain ⟨us, hu, hk⟩ := List.mem_flatMap.mp hk
      obtain ⟨k, _, rfl⟩ := List.mem_map.mp hk
      rw [List.length_append, h us hu]
      rfl
section
variable {P : Program} {w : World} {K : PySem.W.Frag} {mg : Str → Option Value} {base : Heap}
def sp_Table_order (C : Addr) : Sp := fun vs H Q _ => ∃ (a s : Addr) (ns ps : List Int), vs = [.ref a, .ref s] ∧ TabAt C H a ns ∧ SzOk ns ∧ SzB ns ∧ H s = some (.tup (ps.map V.int)) ∧ SeatOk ns ps ∧ ∀ H2, Ex H H2 → Q (.int (ordF (ps.zip ns))) H2
theorem ok_Table_order (T : TX K mg) : FnOk P w K mg base CX0 5 T.f_Table_order T.fd_Table_order ["self", "seat"] (sp_Table_order T.C_Table) := by
  refine T.F_Table_order.ok sc_Table_order (fun vs H Q E h => ?_) (fun cdv A outer s H vs Q E hr h => ?_)
  · obtain ⟨a, s, ns, ps, rfl, _⟩ := h
    rfl
  · obtain ⟨a, s, ns, ps, rfl, tab, ok, hB, hs, sk, k⟩ := h
    have l4 := ok.le
    have lp := sk.len
    refine ⟨_, (pss_cons (ps_expr (pe_call (ok_require_seat T) hr rfl T.m_require_seat T.F_require_seat.kp T.b_require_seat .nil pass0 (pa_cons (pv 0) (pa_cons (pv 1) pa_nil)))) (pss_cons (ps_set (i := 2) sc_Table_order.nd rfl (Or.inl rfl) pe_int) (pss_cons (ps_for PassesOwn.never rfl (CZ.pi_z2s (fl := [true, true]) rfl (by rfl) T.z_zip (pa_cons (pv 1) (pa_cons (pe_fld (pv 0) rfl) pa_nil))) (pg_tup rfl (pgs_cons (pg_name (i := 3) sc_Table_order.nd rfl (Or.inl rfl)) (pgs_cons (pg_name (i := 4) sc_Table_order.nd rfl (Or.inl rfl)) pgs_nil))) (pss_cons (ps_set (i := 5) sc_Table_order.nd rfl (Or.inl rfl) (pe_op op_fdivW (pv 4) (pe_call (ok_greatest_common_divisor T) (hr.mono (by decide)) rfl T.m_greatest_common_divisor T.F_greatest_common_divisor.kp T.b_greatest_common_divisor .nil pass0 (pa_cons (pv 3) (pa_cons (pv 4) pa_nil))))) (pss_one (ps_set (i := 2) sc_Table_order.nd rfl (Or.inl rfl) (pe_op op_mulI (pe_op op_fdivW (pv 2) (pe_call (ok_greatest_common_divisor T) (hr.mono (by decide)) rfl T.m_greatest_common_divisor T.F_greatest_common_divisor.kp T.b_greatest_common_divisor .nil pass0 (pa_cons (pv 2) (pa_cons (pv 5) pa_nil)))) (pv 5)))))) (pss_one (ps_ret (pv 2)))))), ?_⟩
    refine ⟨_, rfl, _, rfl, a, _, ns, _, rfl, tab, l4, TupA.ints hs (by omega), isSeat_ok sk, fun H1 e1 => ?_⟩
    obtain ⟨dx, t, h1, h2⟩ := tab.mono e1
    have hs1 := e1 _ _ hs
    refine ⟨_, rfl, _, rfl, a, _, dx, _, _, rfl, h1, T.cl_Table, T.n_Table_rings, rfl, [s, t], rfl, rfl, all2 (sqT hs1) (sqT h2), ?_⟩
    refine for_it (CZ.walk_rows (xss := [ps.map V.int, ns.map V.int]) (n := ns.length) (lens2 (by rw [List.length_map, lp]) (by rw [List.length_map]))) (fun i σ H2 => ∃ y1 y2 y3 : Option V, σ = [some (.ref a), some (.ref s), some (.int (ordF ((ps.zip ns).take i))), y1, y2, y3] ∧ Ex H1 H2) ⟨_, _, _, rfl, exr⟩ (fun i σ H2 _ ⟨_, _, _, _, e⟩ => .cons (sqT (e _ _ hs1)) (.cons (sqT (e _ _ h2)) .nil)) ?_ ?_
    · rintro i x σ H2 H3 hi ⟨y1, y2, y3, rfl, e2⟩ yy
      obtain ⟨Ta, p, n, rfl, hT, rfl, hp, hn⟩ := yints2 yy
      have n1 := ok.one n (List.mem_of_getElem? hn)
      have n2 := hB n (List.mem_of_getElem? hn)
      obtain ⟨p0, p1⟩ := sk.at hn hp
      have lt : ((ps.zip ns).take i).length ≤ 4 := by
        rw [List.length_take, zip_len lp rfl]
        omega
      obtain ⟨o1, o2⟩ := ord_ok (zip_bound ok hB i) lt
      have ezs := take_more (zip_at hp hn)
      refine ⟨Ta, _, rfl, SqT.of upd_same, rfl, _, _, rfl, _, _, rfl, rfl, ?_⟩
      have g0 : (0 : Int) < gcdI p n := by
        have := gcd_pos2 (p := p) n1
        show (0 : Int) < ((Int.gcd p n : Nat) : Int)
        omega
      have gle : gcdI p n ≤ n := Int.le_of_dvd (by omega) (Int.gcd_dvd_right p n)
      refine ⟨_, rfl, _, rfl, _, rfl, p, n, rfl, p0, (by omega), _, _, rfl, rfl, wide_div g0 (abs45 (by omega) (by omega)) (by decide) (by decide), ?_⟩
      have q0 := per_pos (p := p) n1
      have q1 := per_le (p := p) (n := n)
      have q2 : perN p n < 2 ^ 150 := Nat.lt_of_le_of_lt q1 (abs45 (by omega) n2)
      dsimp only
      rw [per_int n1]
      have r0 : 0 < Nat.gcd (ordF ((ps.zip ns).take i)) (perN p n) := Nat.gcd_pos_of_pos_left _ o1
      have r1 : Nat.gcd (ordF ((ps.zip ns).take i)) (perN p n) ≤ perN p n := Nat.gcd_le_right _ q0
      refine ⟨_, rfl, _, rfl, _, rfl, _, _, rfl, Int.natCast_nonneg _, Int.natCast_nonneg _, _, _, rfl, rfl, wide_div (b := 150) ?_ ?_ (by decide) (by decide), _, rfl, _, _, rfl, rfl, (wide_mul (a := 600) (b := 150) ?_ ?_ (by decide) (by decide) (by decide)).ok, ?_⟩
      · show (0 : Int) < ((Nat.gcd (ordF ((ps.zip ns).take i)) (perN p n) : Nat) : Int)
        omega
      · show ((Nat.gcd (ordF ((ps.zip ns).take i)) (perN p n) : Nat) : Int).natAbs < 2 ^ 150
        rw [Int.natAbs_natCast]
        exact Nat.lt_of_le_of_lt r1 q2
      · show ((ordF ((ps.zip ns).take i) : Int) / ((Nat.gcd (ordF ((ps.zip ns).take i)) (perN p n) : Nat) : Int)).natAbs < 2 ^ 600
        rw [← Int.natCast_ediv, Int.natAbs_natCast]
        exact Nat.lt_of_le_of_lt (Nat.div_le_self _ _) o2
      · rw [Int.natAbs_natCast]
        exact q2
      · dsimp only
        rw [lcm_int]
        rw [ezs, ord_snoc]
        exact ⟨_, _, _, rfl, fun c o z => exn hT _ _ (e2 c o z)⟩
    · rintro σ H2 ⟨y1, y2, y3, rfl, e2⟩
      rw [zip_take_len lp rfl]
      exact ⟨_, rfl, k _ fun c o z => e2 c o (e1 c o z)⟩
end

/-- a list (false) or a tuple (true) of tuples of ints -/
def RowsQ (H : Hp) (q : Bool × Addr) (tss : List (List Int)) : Prop := ∃ xs, SqH H q xs ∧ RowsR H xs tss
theorem RowsQ.mono {H H2 : Hp} {q : Bool × Addr} {tss : List (List Int)} (e : Ex H H2) (h : RowsQ H q tss) : RowsQ H2 q tss := by
  obtain ⟨xs, h1, h2⟩ := h
  exact ⟨xs, h1.mono e, h2.mono e⟩
theorem RowsQ.dp {K : PySem.W.Frag} {H : Hp} {q : Bool × Addr} {tss : List (List Int)} (h : RowsQ H q tss) : Dp K H (.ref q.2) (.list (tss.map iT)) ∨ Dp K H (.ref q.2) (.tuple (tss.map iT)) := by
  obtain ⟨xs, h1, h2⟩ := h
  obtain ⟨b, a⟩ := q
  cases b
  · exact .inl (.lst (SqL.of (show H a = some (.lst xs) from h1)) h2.dp)
  · exact .inr (.tup (SqT.of (show H a = some (.tup xs) from h1)) h2.dp)
theorem any_rows (tss : List (List Int)) (ps : List Int) : ((tss.map iT).any fun z => PyData.eqv z (iT ps)) = decide (ps ∈ tss) := by
  rw [List.any_map, Bool.eq_iff_iff, List.any_eq_true, decide_eq_true_eq]
  constructor
  · rintro ⟨x, hx, h⟩
    have h2 : PyData.eqv (iT x) (iT ps) = true := h
    rw [eqv_ints] at h2
    rw [← of_decide_eq_true h2]
    exact hx
  · intro h
    refine ⟨ps, h, ?_⟩
    show PyData.eqv (iT ps) (iT ps) = true
    rw [eqv_ints]
    simp
abbrev kI (ps : List Int) : List Key := ps.map Sum.inl
theorem kI_map (ps : List Int) : (kI ps).map kV = ps.map V.int := by
  rw [List.map_map]
  rfl
theorem kI_inj {a b : List Int} (h : kI a = kI b) : a = b := by
  induction a generalizing b with
  | nil =>
    cases b with
    | nil => rfl
    | cons y ys => simp at h
  | cons x xs ih =>
    cases b with
    | nil => simp at h
    | cons y ys =>
      simp only [List.map_cons, List.cons.injEq, Sum.inl.injEq] at h
      rw [h.1, ih h.2]
theorem nodup_get {α : Type} {l : List α} (nod : l.Nodup) {i : Nat} {t : α} (ht : l[i]? = some t) : ¬ t ∈ l.take i := by
  intro hm
  obtain ⟨j, hj⟩ := List.getElem?_of_mem hm
  obtain ⟨jl, je⟩ := List.getElem?_eq_some_iff.mp hj
  rw [List.length_take] at jl
  rw [List.getElem_take] at je
  obtain ⟨il, ie⟩ := List.getElem?_eq_some_iff.mp ht
  exact absurd (je.trans ie.symm) (List.pairwise_iff_getElem.mp nod j i (by omega) il (by omega))
theorem put_len {κ : Type} [DecidableEq κ] {kvs : List (κ × V)} {k : κ} {v : V} (h : valV kvs k = none) : (putK kvs k v).length = kvs.length + 1 := by
  rw [putK_new v h, List.length_append]
  rfl
section
variable {P : Program} {w : World} {K : PySem.W.Frag} {mg : Str → Option Value} {base : Heap}
def sp_require_table (C : Addr) : Sp := fun vs H Q _ => ∃ (a : Addr) (ns : List Int), vs = [.ref a] ∧ TabAt C H a ns ∧ Q .non H
theorem ok_require_table (T : TX K mg) : FnOk P w K mg base CX0 5 T.f_require_table T.fd_require_table ["table"] (sp_require_table T.C_Table) := by
  refine T.F_require_table.ok sc_require_table (fun vs H Q E h => ?_) (fun cdv A outer s H vs Q E hr h => ?_)
  · obtain ⟨a, ns, rfl, _⟩ := h
    rfl
  · obtain ⟨a, ns, rfl, ⟨dx, t, h1, h2⟩, k⟩ := h
    refine ⟨_, (pss_one (ps_if (pt_not (pt_val (pe_callB call_isi (by rfl) T.z_isinstance (by decide +kernel) (pa_cons (pv 0) (pa_cons (pe_glob (v := .ref T.C_Table) rfl T.m_Table rfl) pa_nil))))) pss_never pss_nil)), ?_⟩
    exact ⟨_, rfl, _, _, _, _, true, rfl, .own _, .base (.ins h1 T.cl_Table T.ic_Table T.ig_ T.it_ T.im_Table), kit_self, _, rfl, itf rfl k⟩
end

open CD
/-! ### lattices of integer vectors -/
abbrev Vec := Nat → Int
inductive Lat (G : Vec → Prop) : Vec → Prop where
  | zero : Lat G (fun _ => 0)
  | step {v g : Vec} (k : Int) (h : Lat G v) (hg : G g) : Lat G (fun i => v i - k * g i)
theorem Lat.comb {G : Vec → Prop} {u v : Vec} (hu : Lat G u) (hv : Lat G v) : ∀ k : Int, Lat G (fun i => u i - k * v i) := by
  induction hv with
  | zero =>
    intro k
    have : (fun i => u i - k * 0) = u := by funext i; simp
    rw [this]
    exact hu
  | step j h hg ih =>
    intro k
    have := Lat.step (-(k * j)) (ih k) hg
    refine (congrArg (Lat G) (funext fun i => ?_)).mp this
    grind
theorem Lat.gen {G : Vec → Prop} {g : Vec} (h : G g) : Lat G g := by
  have := Lat.step (-1) (Lat.zero (G := G)) h
  refine (congrArg (Lat G) (funext fun i => ?_)).mp this
  grind
theorem Lat.of_eq {G : Vec → Prop} {u v : Vec} (h : Lat G u) (e : ∀ i, u i = v i) : Lat G v := (funext e : u = v) ▸ h
theorem Lat.add {G : Vec → Prop} {u v : Vec} (hu : Lat G u) (hv : Lat G v) : Lat G (fun i => u i + v i) := (hu.comb hv (-1)).of_eq fun i => by grind
theorem Lat.mul {G : Vec → Prop} {v : Vec} (hv : Lat G v) (k : Int) : Lat G (fun i => k * v i) := (Lat.zero.comb hv (-k)).of_eq fun i => by grind
theorem Lat.le {G G' : Vec → Prop} {v : Vec} (h : ∀ g, G g → Lat G' g) (hv : Lat G v) : Lat G' v := by
  induction hv with
  | zero => exact .zero
  | step k _ hg ih => exact ih.comb (h _ hg) k
/-- a list as a vector -/
def vf (v : List Int) : Vec := fun i => v.getD i 0
theorem vf_nil : vf [] = fun _ => 0 := by funext i; simp [vf]
theorem vf_ge {v : List Int} {i : Nat} (h : v.length ≤ i) : vf v i = 0 := by
  unfold vf
  rw [List.getD_eq_getElem?_getD, List.getElem?_eq_none h]
  rfl
theorem vf_at {v : List Int} {i : Nat} {x : Int} (h : v[i]? = some x) : vf v i = x := by
  unfold vf
  rw [List.getD_eq_getElem?_getD, h]
  rfl
def axpy (k : Int) (a b : List Int) : List Int := List.zipWith (fun x y => x - k * y) a b
theorem axpy_len {k : Int} {a b : List Int} (h : a.length = b.length) : (axpy k a b).length = b.length := by simp [axpy, h]
theorem axpy_vf {k : Int} {a b : List Int} (h : a.length = b.length) : vf (axpy k a b) = fun i => vf a i - k * vf b i := by
  funext i
  by_cases hi : i < a.length
  · have h1 : a[i]? = some a[i] := List.getElem?_eq_getElem hi
    have h2 : b[i]? = some (b[i]'(by omega)) := List.getElem?_eq_getElem (by omega)
    have h3 : (axpy k a b)[i]? = some (a[i] - k * b[i]'(by omega)) := by
      unfold axpy
      rw [List.getElem?_zipWith, h1, h2]
    rw [vf_at h1, vf_at h2, vf_at h3]
  · rw [vf_ge (v := a) (by omega), vf_ge (v := b) (by omega), vf_ge (by rw [axpy_len h]; omega)]
    grind
/-- what stays behind Euclid's step -/
theorem fmod_small {x y : Int} (h : y ≠ 0) : (x - x.fdiv y * y).natAbs < y.natAbs := by
  have e := Int.fmod_def x y
  have e2 : x - x.fdiv y * y = x.fmod y := by rw [e, Int.mul_comm]
  rw [e2]
  rw [Int.fmod_eq_emod]
  have a := Int.emod_nonneg x h
  have b := Int.emod_lt x h
  split
  · omega
  · rename_i hn
    have hd : ¬ y ∣ x := fun z => hn (.inr z)
    have hy : ¬ 0 ≤ y := fun z => hn (.inl z)
    have : x % y ≠ 0 := fun z => hd (Int.dvd_of_emod_eq_zero z)
    omega
/-- rows of Euclid, by a column -/
def combF (c : Nat) (f s : List Int) : List Int × List Int :=
  if h : vf s c = 0 then (f, s) else combF c s (axpy ((vf f c).fdiv (vf s c)) f s)
termination_by (vf s c).natAbs
decreasing_by
  by_cases hf : c < f.length
  · have hs : c < s.length := by
      rcases Nat.lt_or_ge c s.length with z | z
      · exact z
      · exact absurd (vf_ge z) h
    have h3 : (axpy ((vf f c).fdiv (vf s c)) f s)[c]? = some (f[c] - (vf f c).fdiv (vf s c) * s[c]) := by
      unfold axpy
      rw [List.getElem?_zipWith, List.getElem?_eq_getElem hf, List.getElem?_eq_getElem hs]
    rw [vf_at h3, ← vf_at (List.getElem?_eq_getElem hf), ← vf_at (List.getElem?_eq_getElem hs)]
    exact fmod_small h
  · rw [vf_ge (v := axpy _ f s) (by unfold axpy; rw [List.length_zipWith]; omega)]
    omega
theorem combF_eq (c : Nat) (f s : List Int) : combF c f s = if vf s c = 0 then (f, s) else combF c s (axpy ((vf f c).fdiv (vf s c)) f s) := by
  rw [combF]
  split <;> rfl
/-- by induction on Euclid's steps -/
theorem comb_ind {c : Nat} {P : List Int → List Int → Prop} {n : Nat} (h : ∀ f s, f.length = n → s.length = n → vf s c ≠ 0 → P f s → P s (axpy ((vf f c).fdiv (vf s c)) f s)) :
    ∀ (m : Nat) (f s : List Int), (vf s c).natAbs ≤ m → f.length = n → s.length = n → P f s → P (combF c f s).1 (combF c f s).2 ∧ (combF c f s).1.length = n ∧ (combF c f s).2.length = n ∧ vf (combF c f s).2 c = 0
  | m, f, s, hm, lf, ls, hp => by
    rw [combF_eq]
    by_cases z : vf s c = 0
    · rw [if_pos z]
      exact ⟨hp, lf, ls, z⟩
    · rw [if_neg z]
      have la : (axpy ((vf f c).fdiv (vf s c)) f s).length = n := by rw [axpy_len (by omega), ls]
      have lt : (vf (axpy ((vf f c).fdiv (vf s c)) f s) c).natAbs < (vf s c).natAbs := by
        rw [axpy_vf (by omega)]
        exact fmod_small z
      cases m with
      | zero => omega
      | succ m => exact comb_ind h m s _ (by omega) ls la (h f s lf ls z hp)
/-- generators: two rows and others -/
def two (R : Vec → Prop) (f s : List Int) : Vec → Prop := fun g => g = vf f ∨ g = vf s ∨ R g
theorem comb_lat {c n : Nat} {f s : List Int} (lf : f.length = n) (ls : s.length = n) (R : Vec → Prop) (v : Vec) : Lat (two R f s) v ↔ Lat (two R (combF c f s).1 (combF c f s).2) v := by
  have := comb_ind (c := c) (n := n) (P := fun a b => ∀ v, Lat (two R f s) v ↔ Lat (two R a b) v) (fun a b la lb nz ih v => (ih v).trans ?_) _ f s (Nat.le_refl _) lf ls fun v => Iff.rfl
  · exact this.1 v
  constructor
  · refine Lat.le fun g hg => ?_
    rcases hg with rfl | rfl | hg
    · have h1 : Lat (two R b (axpy ((vf a c).fdiv (vf b c)) a b)) (vf (axpy ((vf a c).fdiv (vf b c)) a b)) := Lat.gen (.inr (.inl rfl))
      rw [axpy_vf (by omega)] at h1
      have h2 : Lat (two R b (axpy ((vf a c).fdiv (vf b c)) a b)) (vf b) := Lat.gen (.inl rfl)
      exact (h1.comb h2 (-((vf a c).fdiv (vf b c)))).of_eq fun i => by grind
    · exact Lat.gen (.inl rfl)
    · exact Lat.gen (.inr (.inr hg))
  · refine Lat.le fun g hg => ?_
    rcases hg with rfl | rfl | hg
    · exact Lat.gen (.inr (.inl rfl))
    · rw [axpy_vf (by omega)]
      exact (Lat.gen (G := two R a b) (.inl rfl)).comb (Lat.gen (.inr (.inl rfl))) _
    · exact Lat.gen (.inr (.inr hg))
theorem comb_zero {c n j : Nat} {f s : List Int} (lf : f.length = n) (ls : s.length = n) (h1 : vf f j = 0) (h2 : vf s j = 0) : vf (combF c f s).1 j = 0 ∧ vf (combF c f s).2 j = 0 :=
  (comb_ind (c := c) (n := n) (P := fun a b => vf a j = 0 ∧ vf b j = 0) (fun a b la lb nz ih => ⟨ih.2, by rw [axpy_vf (by omega)]; simp [ih.1, ih.2]⟩) _ f s (Nat.le_refl _) lf ls ⟨h1, h2⟩).1
theorem comb_nz {c n : Nat} {f s : List Int} (lf : f.length = n) (ls : s.length = n) (h1 : vf f c ≠ 0) : vf (combF c f s).1 c ≠ 0 :=
  (comb_ind (c := c) (n := n) (P := fun a b => vf a c ≠ 0) (fun a b la lb nz ih => nz) _ f s (Nat.le_refl _) lf ls h1).1
theorem comb_len {c n : Nat} {f s : List Int} (lf : f.length = n) (ls : s.length = n) : (combF c f s).1.length = n ∧ (combF c f s).2.length = n ∧ vf (combF c f s).2 c = 0 :=
  (comb_ind (c := c) (n := n) (P := fun _ _ => True) (fun _ _ _ _ _ _ => True.intro) _ f s (Nat.le_refl _) lf ls True.intro).2

/-! ### a triangular basis -/
def unitV (j : Nat) (x : Int) : Vec := fun i => if i = j then x else 0
def redF (c : Nat) (odds row : List Int) : List Int := row.take (c + 1) ++ List.zipWith (fun x y => x % y) (row.drop (c + 1)) (odds.drop (c + 1))
theorem red_len {c n : Nat} {odds row : List Int} (h1 : odds.length = n) (h2 : row.length = n) : (redF c odds row).length = n := by
  unfold redF
  rw [List.length_append, List.length_take, List.length_zipWith, List.length_drop, List.length_drop]
  omega
theorem red_vf {c n : Nat} {odds row : List Int} (h1 : odds.length = n) (h2 : row.length = n) (i : Nat) : vf (redF c odds row) i = if c < i ∧ i < n then vf row i % vf odds i else vf row i := by
  by_cases hn : i < n
  · by_cases hc : c < i
    · rw [if_pos ⟨hc, hn⟩]
      have e1 : row[i]? = some (row[i]'(by omega)) := List.getElem?_eq_getElem (by omega)
      have e2 : odds[i]? = some (odds[i]'(by omega)) := List.getElem?_eq_getElem (by omega)
      rw [vf_at e1, vf_at e2]
      refine vf_at ?_
      unfold redF
      rw [List.getElem?_append_right (by rw [List.length_take]; omega), List.getElem?_zipWith, List.length_take, List.getElem?_drop, List.getElem?_drop]
      have e3 : c + 1 + (i - min (c + 1) row.length) = i := by omega
      rw [e3, e1, e2]
    · rw [if_neg (fun z => hc z.1)]
      have e1 : row[i]? = some (row[i]'(by omega)) := List.getElem?_eq_getElem (by omega)
      rw [vf_at e1]
      refine vf_at ?_
      unfold redF
      rw [List.getElem?_append_left (by rw [List.length_take]; omega), List.getElem?_take, if_pos (by omega), e1]
  · rw [if_neg (fun z => hn z.2), vf_ge (by rw [red_len h1 h2]; omega), vf_ge (by omega)]
/-- multiples of units -/
theorem units_lat {G : Vec → Prop} {c n : Nat} {o k : Nat → Int} (h : ∀ j, c < j → j < n → G (unitV j (o j))) : ∀ m, m ≤ n → Lat G (fun i => if c < i ∧ i < m then k i * o i else 0)
  | 0, _ => Lat.zero.of_eq fun i => by simp
  | m + 1, hm => by
    have ih := units_lat (k := k) h m (by omega)
    by_cases hc : c < m
    · refine (ih.comb (Lat.gen (h m hc (by omega))) (-(k m))).of_eq fun i => ?_
      unfold unitV
      by_cases hi : i = m
      · subst hi
        rw [if_neg (by omega), if_pos rfl, if_pos (by omega)]
        grind
      · rw [if_neg hi]
        by_cases hj : c < i ∧ i < m
        · rw [if_pos hj, if_pos (by omega)]
          grind
        · rw [if_neg hj, if_neg (by omega)]
          grind
    · refine ih.of_eq fun i => ?_
      by_cases hj : c < i ∧ i < m
      · omega
      · rw [if_neg hj, if_neg (by omega)]
/-- a row and the reduced one: alike beside the units -/
theorem red_lat {G : Vec → Prop} {c n : Nat} {odds row : List Int} (h1 : odds.length = n) (h2 : row.length = n) (h : ∀ j, c < j → j < n → G (unitV j (vf odds j))) : Lat G (fun i => vf row i - vf (redF c odds row) i) := by
  refine (units_lat (k := fun i => vf row i / vf odds i) h n (Nat.le_refl _)).of_eq fun i => ?_
  rw [red_vf h1 h2]
  by_cases hi : c < i ∧ i < n
  · rw [if_pos hi, if_pos hi]
    have := Int.mul_ediv_add_emod (vf row i) (vf odds i)
    grind
  · rw [if_neg hi, if_neg hi]
    grind
/-- one row more in a column -/
def pivF (c : Nat) (odds : List Int) (st : List Int × List (List Int)) (row : List Int) : List Int × List (List Int) :=
  (redF c odds (combF c st.1 row).1, st.2 ++ [redF c odds (combF c st.1 row).2])
def unitL (n c : Nat) (x : Int) : List Int := (List.range n).map fun i => if i = c then x else 0
theorem unitL_vf {n c : Nat} {x : Int} (h : c < n) : vf (unitL n c x) = unitV c x := by
  funext i
  unfold unitV unitL
  by_cases hi : i < n
  · refine vf_at ?_
    rw [List.getElem?_map, List.getElem?_range hi]
    rfl
  · rw [vf_ge (by simp; omega), if_neg (by omega)]
def colF (odds : List Int) (c : Nat) (rows : List (List Int)) : List Int × List (List Int) := rows.foldl (pivF c odds) (unitL odds.length c (vf odds c), [])
/-- generators: rows done, a pivot, rows, units behind c -/
def gens (B : Vec → Prop) (p : List Int) (rows : List (List Int)) (c n : Nat) (odds : List Int) : Vec → Prop := fun g => B g ∨ g = vf p ∨ (∃ r ∈ rows, g = vf r) ∨ ∃ j, c < j ∧ j < n ∧ g = unitV j (vf odds j)
theorem lat_same {G G' : Vec → Prop} (h : ∀ g, G g → Lat G' g) (h' : ∀ g, G' g → Lat G g) (v : Vec) : Lat G v ↔ Lat G' v := ⟨Lat.le h, Lat.le h'⟩
/-- a row replaced by one that differs by the lattice of the others -/
theorem lat_swap {R : Vec → Prop} {a b : Vec} (h : Lat R (fun i => a i - b i)) (v : Vec) : Lat (fun g => g = a ∨ R g) v ↔ Lat (fun g => g = b ∨ R g) v := by
  have up : ∀ {c : Vec} {g : Vec}, Lat R g → Lat (fun g => g = c ∨ R g) g := fun z => Lat.le (fun g hg => Lat.gen (.inr hg)) z
  refine lat_same (fun g hg => ?_) (fun g hg => ?_) v
  · rcases hg with rfl | hg
    · exact ((up h).add (Lat.gen (G := fun g => g = b ∨ R g) (.inl rfl))).of_eq fun i => by grind
    · exact Lat.gen (.inr hg)
  · rcases hg with rfl | hg
    · exact ((Lat.gen (G := fun g => g = a ∨ R g) (.inl rfl)).comb (up h) 1).of_eq fun i => by grind
    · exact Lat.gen (.inr hg)
theorem lat_congr {G G' : Vec → Prop} (h : ∀ g, G g ↔ G' g) (v : Vec) : Lat G v ↔ Lat G' v := lat_same (fun g hg => Lat.gen ((h g).mp hg)) (fun g hg => Lat.gen ((h g).mpr hg)) v
theorem piv_lat {B : Vec → Prop} {c n : Nat} {odds : List Int} (h1 : odds.length = n) {p row : List Int} {os rest : List (List Int)} (lp : p.length = n) (lr : row.length = n) (v : Vec) :
    Lat (gens B p (os ++ row :: rest) c n odds) v ↔ Lat (gens B (redF c odds (combF c p row).1) (os ++ [redF c odds (combF c p row).2] ++ rest) c n odds) v := by
  obtain ⟨l1, l2, _⟩ := comb_len (c := c) lp lr
  let R : Vec → Prop := fun g => B g ∨ (∃ r ∈ os ++ rest, g = vf r) ∨ ∃ j, c < j ∧ j < n ∧ g = unitV j (vf odds j)
  have hR : ∀ j, c < j → j < n → R (unitV j (vf odds j)) := fun j a b => .inr (.inr ⟨j, a, b, rfl⟩)
  have s1 : Lat (gens B p (os ++ row :: rest) c n odds) v ↔ Lat (two R p row) v := by
    refine lat_congr (fun g => ?_) v
    unfold gens two
    simp only [R, List.mem_append, List.mem_cons]
    constructor
    · rintro (h | h | ⟨r, (h | h | h), rfl⟩ | h)
      · exact .inr (.inr (.inl h))
      · exact .inl h
      · exact .inr (.inr (.inr (.inl ⟨r, .inl h, rfl⟩)))
      · subst h; exact .inr (.inl rfl)
      · exact .inr (.inr (.inr (.inl ⟨r, .inr h, rfl⟩)))
      · exact .inr (.inr (.inr (.inr h)))
    · rintro (h | h | h | ⟨r, (h | h), rfl⟩ | h)
      · exact .inr (.inl h)
      · exact .inr (.inr (.inl ⟨row, .inr (.inl rfl), h⟩))
      · exact .inl h
      · exact .inr (.inr (.inl ⟨r, .inl h, rfl⟩))
      · exact .inr (.inr (.inl ⟨r, .inr (.inr h), rfl⟩))
      · exact .inr (.inr (.inr h))
  have s2 := comb_lat (c := c) lp lr R v
  have s3 : Lat (two R (combF c p row).1 (combF c p row).2) v ↔ Lat (two R (redF c odds (combF c p row).1) (combF c p row).2) v :=
    lat_swap (R := fun g => g = vf (combF c p row).2 ∨ R g) (red_lat h1 l1 fun j a b => .inr (hR j a b)) v
  have s4 : Lat (two R (redF c odds (combF c p row).1) (combF c p row).2) v ↔ Lat (fun g => g = vf (redF c odds (combF c p row).2) ∨ g = vf (redF c odds (combF c p row).1) ∨ R g) v := by
    refine (lat_congr (G' := fun g => g = vf (combF c p row).2 ∨ g = vf (redF c odds (combF c p row).1) ∨ R g) (fun g => ?_) v).trans (lat_swap (R := fun g => g = vf (redF c odds (combF c p row).1) ∨ R g) (red_lat h1 l2 fun j a b => .inr (hR j a b)) v)
    unfold two
    constructor
    · rintro (h | h | h)
      · exact .inr (.inl h)
      · exact .inl h
      · exact .inr (.inr h)
    · rintro (h | h | h)
      · exact .inr (.inl h)
      · exact .inl h
      · exact .inr (.inr h)
  refine s1.trans (s2.trans (s3.trans (s4.trans (lat_congr (fun g => ?_) v))))
  unfold gens
  simp only [R, List.mem_append, List.mem_singleton]
  constructor
  · rintro (h | h | h | ⟨r, (h | h), rfl⟩ | h)
    · exact .inr (.inr (.inl ⟨_, .inl (.inr rfl), h⟩))
    · exact .inr (.inl h)
    · exact .inl h
    · exact .inr (.inr (.inl ⟨r, .inl (.inl h), rfl⟩))
    · exact .inr (.inr (.inl ⟨r, .inr h, rfl⟩))
    · exact .inr (.inr (.inr h))
  · rintro (h | h | ⟨r, ((h | h) | h), rfl⟩ | h)
    · exact .inr (.inr (.inl h))
    · exact .inr (.inl h)
    · exact .inr (.inr (.inr (.inl ⟨r, .inl h, rfl⟩)))
    · subst h; exact .inl rfl
    · exact .inr (.inr (.inr (.inl ⟨r, .inr h, rfl⟩)))
    · exact .inr (.inr (.inr (.inr h)))
/-- what a column leaves -/
theorem col_fold {B : Vec → Prop} {c n : Nat} {odds : List Int} (h1 : odds.length = n) (hc : c < n) (L : Vec → Prop) : ∀ (rows : List (List Int)) (p : List Int) (os : List (List Int)),
    (∀ r ∈ rows, r.length = n ∧ ∀ j, j < c → vf r j = 0) → p.length = n → (∀ j, j < c → vf p j = 0) → vf p c ≠ 0 → (∀ r ∈ os, r.length = n ∧ ∀ j, j ≤ c → vf r j = 0) → (∀ v, Lat (gens B p (os ++ rows) c n odds) v ↔ L v) →
    let q := rows.foldl (pivF c odds) (p, os)
    q.1.length = n ∧ (∀ j, j < c → vf q.1 j = 0) ∧ vf q.1 c ≠ 0 ∧ (∀ r ∈ q.2, r.length = n ∧ ∀ j, j ≤ c → vf r j = 0) ∧ (∀ v, Lat (gens B q.1 q.2 c n odds) v ↔ L v)
  | [], p, os, _, lp, zp, nz, zo, hl => ⟨lp, zp, nz, zo, fun v => by have := hl v; rwa [List.append_nil] at this⟩
  | row :: rows, p, os, hr, lp, zp, nz, zo, hl => by
    obtain ⟨lr, zr⟩ := hr row List.mem_cons_self
    obtain ⟨l1, l2, z2⟩ := comb_len (c := c) lp lr
    refine col_fold h1 hc L rows (redF c odds (combF c p row).1) (os ++ [redF c odds (combF c p row).2]) (fun r h => hr r (List.mem_cons_of_mem _ h)) (red_len h1 l1) (fun j hj => ?_) ?_ (fun r h => ?_) (fun v => (piv_lat h1 lp lr v).symm.trans (hl v))
    · rw [red_vf h1 l1, if_neg (by omega)]
      exact (comb_zero lp lr (zp j hj) (zr j hj)).1
    · rw [red_vf h1 l1, if_neg (by omega)]
      exact comb_nz lp lr nz
    · rcases List.mem_append.mp h with h | h
      · exact zo r h
      · rw [List.mem_singleton.mp h]
        refine ⟨red_len h1 l2, fun j hj => ?_⟩
        rw [red_vf h1 l2, if_neg (by omega)]
        by_cases e : j = c
        · rw [e]; exact z2
        · exact (comb_zero lp lr (zp j (by omega)) (zr j (by omega))).2

/-- the pivot with a positive entry -/
def posF (c : Nat) (p : List Int) : List Int := if 0 < vf p c then p else p.map fun x => -x
theorem neg_vf (p : List Int) : vf (p.map fun x => -x) = fun i => - vf p i := by
  funext i
  by_cases hi : i < p.length
  · have e : p[i]? = some p[i] := List.getElem?_eq_getElem hi
    rw [vf_at e]
    exact vf_at (by rw [List.getElem?_map, e]; rfl)
  · rw [vf_ge (by simp; omega), vf_ge (by omega)]
    rfl
theorem pos_len (c : Nat) (p : List Int) : (posF c p).length = p.length := by
  unfold posF
  split <;> simp
theorem pos_pos {c : Nat} {p : List Int} (h : vf p c ≠ 0) : 0 < vf (posF c p) c := by
  unfold posF
  split
  · assumption
  · rw [neg_vf]
    show 0 < - vf p c
    omega
theorem pos_zero {c j : Nat} {p : List Int} (h : vf p j = 0) : vf (posF c p) j = 0 := by
  unfold posF
  split
  · exact h
  · rw [neg_vf]
    show - vf p j = 0
    omega
theorem pos_lat {R : Vec → Prop} (c : Nat) (p : List Int) (v : Vec) : Lat (fun g => g = vf p ∨ R g) v ↔ Lat (fun g => g = vf (posF c p) ∨ R g) v := by
  unfold posF
  split
  · exact Iff.rfl
  · rw [neg_vf]
    refine lat_same (fun g hg => ?_) (fun g hg => ?_) v
    · rcases hg with rfl | hg
      · exact ((Lat.gen (G := fun g => g = (fun i => - vf p i) ∨ R g) (.inl rfl)).mul (-1)).of_eq fun i => by grind
      · exact Lat.gen (.inr hg)
    · rcases hg with rfl | hg
      · exact ((Lat.gen (G := fun g => g = vf p ∨ R g) (.inl rfl)).mul (-1)).of_eq fun i => by grind
      · exact Lat.gen (.inr hg)
/-- one column more -/
def nextF (odds : List Int) (st : List (List Int) × List (List Int)) (c : Nat) : List (List Int) × List (List Int) := (st.1 ++ [posF c (colF odds c st.2).1], (colF odds c st.2).2)
def basisF (odds : List Int) (rows : List (List Int)) : List (List Int) := ((List.range odds.length).foldl (nextF odds) ([], rows)).1
/-- the i-th row begins at i, with a positive entry -/
def Tri (n : Nat) (B : List (List Int)) : Prop := ∀ i (r : List Int), B[i]? = some r → r.length = n ∧ (∀ j, j < i → vf r j = 0) ∧ 0 < vf r i
def rowsG (B : List (List Int)) : Vec → Prop := fun g => ∃ r ∈ B, g = vf r
/-- free shifts: of rows and units -/
def shG (rows : List (List Int)) (c n : Nat) (odds : List Int) : Vec → Prop := fun g => (∃ r ∈ rows, g = vf r) ∨ ∃ j, c ≤ j ∧ j < n ∧ g = unitV j (vf odds j)
theorem next_inv {n : Nat} {odds : List Int} (h1 : odds.length = n) (ho : ∀ i, i < n → vf odds i ≠ 0) (L : Vec → Prop) {c : Nat} (hc : c < n) {B rows : List (List Int)} (lB : B.length = c) (tri : Tri n B) (hr : ∀ r ∈ rows, r.length = n ∧ ∀ j, j < c → vf r j = 0)
    (hl : ∀ v, Lat (fun g => rowsG B g ∨ shG rows c n odds g) v ↔ L v) :
    let q := nextF odds (B, rows) c
    q.1.length = c + 1 ∧ Tri n q.1 ∧ (∀ r ∈ q.2, r.length = n ∧ ∀ j, j < c + 1 → vf r j = 0) ∧ (∀ v, Lat (fun g => rowsG q.1 g ∨ shG q.2 (c + 1) n odds g) v ↔ L v) := by
  have lu : (unitL odds.length c (vf odds c)).length = n := by simp [unitL, h1]
  have uv : vf (unitL odds.length c (vf odds c)) = unitV c (vf odds c) := unitL_vf (by omega)
  have key := col_fold (B := rowsG B) h1 hc L rows (unitL odds.length c (vf odds c)) [] hr lu (fun j hj => by rw [uv]; unfold unitV; rw [if_neg (by omega)]) (by rw [uv]; unfold unitV; rw [if_pos rfl]; exact ho c hc) (by simp) (fun v => by
    refine (lat_congr (fun g => ?_) v).trans (hl v)
    unfold gens shG
    rw [uv, List.nil_append]
    constructor
    · rintro (h | h | h | ⟨j, a, b, rfl⟩)
      · exact .inl h
      · exact .inr (.inr ⟨c, Nat.le_refl _, hc, h⟩)
      · exact .inr (.inl h)
      · exact .inr (.inr ⟨j, by omega, b, rfl⟩)
    · rintro (h | h | ⟨j, a, b, rfl⟩)
      · exact .inl h
      · exact .inr (.inr (.inl h))
      · by_cases e : j = c
        · subst e; exact .inr (.inl rfl)
        · exact .inr (.inr (.inr ⟨j, by omega, b, rfl⟩)))
  obtain ⟨k1, k2, k3, k4, k5⟩ := key
  show (B ++ [posF c (colF odds c rows).1]).length = c + 1 ∧ Tri n (B ++ [posF c (colF odds c rows).1]) ∧ (∀ r ∈ (colF odds c rows).2, r.length = n ∧ ∀ j, j < c + 1 → vf r j = 0) ∧ (∀ v, Lat (fun g => rowsG (B ++ [posF c (colF odds c rows).1]) g ∨ shG (colF odds c rows).2 (c + 1) n odds g) v ↔ L v)
  refine ⟨by rw [List.length_append, lB]; rfl, fun i r hi => ?_, fun r hr => ⟨(k4 r hr).1, fun j hj => (k4 r hr).2 j (by omega)⟩, fun v => ?_⟩
  · by_cases hlt : i < c
    · rw [List.getElem?_append_left (by omega)] at hi
      exact tri i r hi
    · rw [List.getElem?_append_right (by omega), lB] at hi
      have : i - c = 0 := by
        rcases Nat.eq_zero_or_pos (i - c) with z | z
        · exact z
        · rw [List.getElem?_eq_none (by simp; omega)] at hi
          cases hi
      rw [this] at hi
      obtain rfl : posF c (colF odds c rows).1 = r := by simpa using hi
      have : i = c := by omega
      subst this
      exact ⟨by rw [pos_len]; exact k1, fun j hj => pos_zero (k2 j hj), pos_pos k3⟩
  · refine Iff.trans ?_ (k5 v)
    refine Iff.trans (lat_congr (G' := fun g => g = vf (posF c (colF odds c rows).1) ∨ (rowsG B g ∨ shG (colF odds c rows).2 (c + 1) n odds g)) (fun g => ?_) v) ((pos_lat c _ v).symm.trans (lat_congr (fun g => ?_) v))
    · unfold rowsG
      simp only [List.mem_append, List.mem_singleton]
      constructor
      · rintro (⟨r, (h | h), rfl⟩ | h)
        · exact .inr (.inl ⟨r, h, rfl⟩)
        · subst h; exact .inl rfl
        · exact .inr (.inr h)
      · rintro (h | ⟨r, h, rfl⟩ | h)
        · exact .inl ⟨_, .inr rfl, h⟩
        · exact .inl ⟨r, .inl h, rfl⟩
        · exact .inr h
    · unfold gens shG colF
      constructor
      · rintro (h | h | h | ⟨j, a, b, rfl⟩)
        · exact .inr (.inl h)
        · exact .inl h
        · exact .inr (.inr (.inl h))
        · exact .inr (.inr (.inr ⟨j, by omega, b, rfl⟩))
      · rintro (h | h | h | ⟨j, a, b, rfl⟩)
        · exact .inr (.inl h)
        · exact .inl h
        · exact .inr (.inr (.inl h))
        · exact .inr (.inr (.inr ⟨j, by omega, b, rfl⟩))
theorem fold_inv {n : Nat} {odds : List Int} (h1 : odds.length = n) (ho : ∀ i, i < n → vf odds i ≠ 0) {rows : List (List Int)} (hr : ∀ r ∈ rows, r.length = n) : ∀ c, c ≤ n →
    let q := (List.range c).foldl (nextF odds) ([], rows)
    q.1.length = c ∧ Tri n q.1 ∧ (∀ r ∈ q.2, r.length = n ∧ ∀ j, j < c → vf r j = 0) ∧ (∀ v, Lat (fun g => rowsG q.1 g ∨ shG q.2 c n odds g) v ↔ Lat (shG rows 0 n odds) v)
  | 0, _ => ⟨rfl, fun i r h => by simp at h, fun r h => ⟨hr r h, fun j hj => absurd hj (by omega)⟩, fun v => lat_congr (fun g => ⟨fun h => h.elim (fun ⟨r, z, _⟩ => nomatch z) id, .inr⟩) v⟩
  | c + 1, hc => by
    obtain ⟨a1, a2, a3, a4⟩ := fold_inv h1 ho hr c (by omega)
    rw [List.range_succ, List.foldl_append]
    exact next_inv h1 ho _ (by omega) a1 a2 a3 a4
/-- the basis: triangular, and of the same lattice -/
theorem basis_ok {n : Nat} {odds : List Int} (h1 : odds.length = n) (ho : ∀ i, i < n → vf odds i ≠ 0) {rows : List (List Int)} (hr : ∀ r ∈ rows, r.length = n) :
    (basisF odds rows).length = n ∧ Tri n (basisF odds rows) ∧ ∀ v, Lat (rowsG (basisF odds rows)) v ↔ Lat (shG rows 0 n odds) v := by
  obtain ⟨a1, a2, a3, a4⟩ := fold_inv h1 ho hr n (Nat.le_refl _)
  unfold basisF
  rw [h1]
  refine ⟨a1, a2, fun v => Iff.trans ?_ (a4 v)⟩
  refine lat_same (fun g hg => Lat.gen (.inl hg)) (fun g hg => ?_) v
  rcases hg with hg | ⟨r, hr2, rfl⟩ | ⟨j, b, c, _⟩
  · exact Lat.gen hg
  · refine Lat.zero.of_eq fun i => ?_
    by_cases hi : i < n
    · exact ((a3 r hr2).2 i hi).symm
    · exact (vf_ge (by rw [(a3 r hr2).1]; omega)).symm
  · omega
/-! ### what a triangular basis tells -/
/-- rows from i on -/
theorem tri_step {n i : Nat} {B : List (List Int)} {b : List Int} (tri : Tri n B) (hb : B[i]? = some b) {v : Vec} (h : Lat (rowsG (B.drop i)) v) : vf b i ∣ v i ∧ Lat (rowsG (B.drop (i + 1))) (fun j => v j - v i / vf b i * vf b j) := by
  obtain ⟨lb, zb, pb⟩ := tri i b hb
  have hd : B.drop i = b :: B.drop (i + 1) := by
    obtain ⟨hi, e⟩ := List.getElem?_eq_some_iff.mp hb
    rw [List.drop_eq_getElem_cons hi, e]
  rw [hd] at h
  induction h with
  | zero => exact ⟨Int.dvd_zero _, Lat.zero.of_eq fun j => by simp⟩
  | @step u g k hu hg ih =>
    obtain ⟨ih1, ih2⟩ := ih
    obtain ⟨r, hr, rfl⟩ := hg
    rcases List.mem_cons.mp hr with rfl | hr
    · refine ⟨Int.dvd_sub ih1 (Int.dvd_mul_left _ _), ih2.of_eq fun j => ?_⟩
      have e : (u i - k * vf r i) / vf r i = u i / vf r i - k := by
        rw [Int.sub_ediv_of_dvd _ (Int.dvd_mul_left _ _), Int.mul_ediv_cancel _ (by omega)]
      rw [e]
      grind
    · obtain ⟨m, hm⟩ := List.getElem?_of_mem hr
      rw [List.getElem?_drop] at hm
      have z := (tri _ r hm).2.1 i (by omega)
      dsimp only
      rw [z]
      refine ⟨by simpa using ih1, (ih2.comb (Lat.gen ⟨r, hr, rfl⟩) k).of_eq fun j => ?_⟩
      have e : u i - k * 0 = u i := by simp
      rw [e]
      grind
/-- a vector of the lattice that begins at i -/
theorem tri_from {n : Nat} {B : List (List Int)} (tri : Tri n B) {v : Vec} (h : Lat (rowsG B) v) : ∀ i, i ≤ B.length → (∀ j, j < i → v j = 0) → Lat (rowsG (B.drop i)) v
  | 0, _, _ => by rwa [List.drop_zero]
  | i + 1, hi, hz => by
    have hb : B[i]? = some (B[i]'(by omega)) := List.getElem?_eq_getElem (by omega)
    obtain ⟨_, g⟩ := tri_step tri hb (tri_from tri h i (by omega) fun j hj => hz j (by omega))
    refine g.of_eq fun j => ?_
    rw [hz i (by omega)]
    simp
theorem lat_drop {B : List (List Int)} {i : Nat} {v : Vec} (h : Lat (rowsG (B.drop i)) v) : Lat (rowsG B) v := h.le fun g ⟨r, hr, e⟩ => Lat.gen ⟨r, List.mem_of_mem_drop hr, e⟩
/-- is_free, from i on -/
def freeF : Nat → List (List Int) → List Int → Bool
  | _, [], _ => true
  | i, b :: B, v => if vf v i % vf b i ≠ 0 then false else freeF (i + 1) B (axpy (vf v i / vf b i) v b)
theorem free_ok {n : Nat} {B : List (List Int)} (lB : B.length = n) (tri : Tri n B) : ∀ (k i : Nat) (v : List Int), i + k = n → v.length = n → (∀ j, j < i → vf v j = 0) → (freeF i (B.drop i) v = true ↔ Lat (rowsG (B.drop i)) (vf v))
  | 0, i, v, hk, lv, hz => by
    have : B.drop i = [] := List.drop_eq_nil_of_le (by omega)
    rw [this]
    refine ⟨fun _ => Lat.zero.of_eq fun j => ?_, fun _ => rfl⟩
    by_cases hj : j < i
    · exact (hz j hj).symm
    · exact (vf_ge (by omega)).symm
  | k + 1, i, v, hk, lv, hz => by
    have hb : B[i]? = some (B[i]'(by omega)) := List.getElem?_eq_getElem (by omega)
    have hd : B.drop i = B[i]'(by omega) :: B.drop (i + 1) := List.drop_eq_getElem_cons (by omega)
    generalize B[i]'(by omega) = b at hb hd
    obtain ⟨l1, z1, p1⟩ := tri i b hb
    have la : (axpy (vf v i / vf b i) v b).length = n := by rw [axpy_len (by omega), l1]
    have va := axpy_vf (k := vf v i / vf b i) (a := v) (b := b) (by omega)
    constructor
    · intro h
      rw [hd] at h
      unfold freeF at h
      by_cases hm : vf v i % vf b i ≠ 0
      · rw [if_pos hm] at h
        cases h
      · rw [if_neg hm] at h
        have hm2 : vf v i % vf b i = 0 := Decidable.byContradiction hm
        have ih := (free_ok lB tri k (i + 1) _ (by omega) la (fun j hj => by
          rw [va]
          by_cases e : j = i
          · subst e
            show vf v j - vf v j / vf b j * vf b j = 0
            have := Int.mul_ediv_add_emod (vf v j) (vf b j)
            grind
          · show vf v j - vf v i / vf b i * vf b j = 0
            rw [hz j (by omega), z1 j (by omega)]
            simp)).mp h
        rw [va] at ih
        rw [hd]
        refine ((ih.le fun g ⟨r, hr, e⟩ => Lat.gen ⟨r, List.mem_cons_of_mem _ hr, e⟩).comb (Lat.gen (G := rowsG (b :: B.drop (i + 1))) ⟨b, List.mem_cons_self, rfl⟩) (-(vf v i / vf b i))).of_eq fun j => ?_
        grind
    · intro h
      obtain ⟨d1, d2⟩ := tri_step tri hb h
      have hm2 : vf v i % vf b i = 0 := Int.emod_eq_zero_of_dvd d1
      rw [hd]
      unfold freeF
      rw [if_neg (by simpa using hm2)]
      refine (free_ok lB tri k (i + 1) _ (by omega) la (fun j hj => ?_)).mpr ?_
      · rw [va]
        by_cases e : j = i
        · subst e
          show vf v j - vf v j / vf b j * vf b j = 0
          have := Int.mul_ediv_add_emod (vf v j) (vf b j)
          grind
        · show vf v j - vf v i / vf b i * vf b j = 0
          rw [hz j (by omega), z1 j (by omega)]
          simp
      · rw [va]
        exact d2
theorem free_iff {n : Nat} {B : List (List Int)} (lB : B.length = n) (tri : Tri n B) {v : List Int} (lv : v.length = n) : freeF 0 B v = true ↔ Lat (rowsG B) (vf v) := by
  have := free_ok lB tri n 0 v (by omega) lv (fun j hj => absurd hj (by omega))
  rwa [List.drop_zero] at this

/-! ### two lattices, one in the other -/
def diagP : Nat → List (List Int) → Int
  | _, [] => 1
  | i, b :: B => vf b i * diagP (i + 1) B
theorem diag_pos {n : Nat} {B : List (List Int)} (tri : Tri n B) : ∀ (k i : Nat), i + k = B.length → 0 < diagP i (B.drop i)
  | 0, i, h => by
    rw [List.drop_eq_nil_of_le (by omega)]
    exact Int.zero_lt_one
  | k + 1, i, h => by
    rw [List.drop_eq_getElem_cons (by omega)]
    exact Int.mul_pos (tri i _ (List.getElem?_eq_getElem (by omega))).2.2 (diag_pos tri k (i + 1) (by omega))
theorem diag_each {n : Nat} {B C : List (List Int)} (lB : B.length = n) (lC : C.length = n) (tB : Tri n B) (tC : Tri n C) (h : ∀ v, Lat (rowsG B) v → Lat (rowsG C) v) {i : Nat} {b c : List Int} (hb : B[i]? = some b) (hc : C[i]? = some c) : vf c i ∣ vf b i := by
  obtain ⟨hi, _⟩ := List.getElem?_eq_some_iff.mp hb
  have g1 : Lat (rowsG C) (vf b) := h _ (Lat.gen ⟨b, List.mem_of_getElem? hb, rfl⟩)
  exact (tri_step tC hc (tri_from tC g1 i (by omega) (tB i b hb).2.1)).1
theorem diag_dvd {n : Nat} {B C : List (List Int)} (lB : B.length = n) (lC : C.length = n) (tB : Tri n B) (tC : Tri n C) (h : ∀ v, Lat (rowsG B) v → Lat (rowsG C) v) : ∀ (k i : Nat), i + k = n → diagP i (C.drop i) ∣ diagP i (B.drop i)
  | 0, i, hk => by
    rw [List.drop_eq_nil_of_le (by omega), List.drop_eq_nil_of_le (by omega)]
    exact Int.dvd_refl _
  | k + 1, i, hk => by
    rw [List.drop_eq_getElem_cons (l := B) (by omega), List.drop_eq_getElem_cons (l := C) (by omega)]
    exact Int.mul_dvd_mul (diag_each lB lC tB tC h (List.getElem?_eq_getElem (by omega)) (List.getElem?_eq_getElem (by omega))) (diag_dvd lB lC tB tC h k (i + 1) (by omega))
theorem eq_of_prods {a b c d : Int} (h1 : 0 < a) (h2 : 0 < b) (h3 : 0 < c) (h4 : 0 < d) (x : c ∣ a) (y : d ∣ b) (e : a * b = c * d) : a = c ∧ b = d := by
  have x1 := Int.le_of_dvd h1 x
  have y1 := Int.le_of_dvd h2 y
  have e1 : c * d ≤ a * d := Int.mul_le_mul_of_nonneg_right x1 (by omega)
  have e2 : a * d ≤ a * b := Int.mul_le_mul_of_nonneg_left y1 (by omega)
  have e3 : a * d = a * b := by omega
  have e4 : c * d = a * d := by omega
  exact ⟨(Int.eq_of_mul_eq_mul_right (by omega) e4).symm, (Int.eq_of_mul_eq_mul_left (by omega) e3).symm⟩
theorem diag_same {n : Nat} {B C : List (List Int)} (lB : B.length = n) (lC : C.length = n) (tB : Tri n B) (tC : Tri n C) (h : ∀ v, Lat (rowsG B) v → Lat (rowsG C) v) : ∀ (k i : Nat), i + k = n → diagP i (B.drop i) = diagP i (C.drop i) → ∀ (m : Nat) (b c : List Int), i ≤ m → B[m]? = some b → C[m]? = some c → vf b m = vf c m
  | 0, i, hk, _ => fun m b c hm hb _ => by
    obtain ⟨hi, _⟩ := List.getElem?_eq_some_iff.mp hb
    omega
  | k + 1, i, hk, e => fun m b c hm hb hc => by
    have dB := diag_pos tB k (i + 1) (by omega)
    have dC := diag_pos tC k (i + 1) (by omega)
    rw [List.drop_eq_getElem_cons (l := B) (by omega), List.drop_eq_getElem_cons (l := C) (by omega)] at e
    have hb0 : B[i]? = some (B[i]'(by omega)) := List.getElem?_eq_getElem (by omega)
    have hc0 : C[i]? = some (C[i]'(by omega)) := List.getElem?_eq_getElem (by omega)
    obtain ⟨e1, e2⟩ := eq_of_prods (tB i _ hb0).2.2 dB (tC i _ hc0).2.2 dC (diag_each lB lC tB tC h hb0 hc0) (diag_dvd lB lC tB tC h k (i + 1) (by omega)) e
    by_cases z : m = i
    · subst z
      rw [hb] at hb0
      rw [hc] at hc0
      rw [Option.some.inj hb0, Option.some.inj hc0]
      exact e1
    · exact diag_same lB lC tB tC h k (i + 1) (by omega) e2 m b c (by omega) hb hc
/-- the same product: the same lattice -/
theorem lat_back {n : Nat} {B C : List (List Int)} (lB : B.length = n) (lC : C.length = n) (tB : Tri n B) (tC : Tri n C) (h : ∀ v, Lat (rowsG B) v → Lat (rowsG C) v) (e : diagP 0 B = diagP 0 C) : ∀ (k i : Nat) (v : Vec), i + k = n → (∀ j, j < i → v j = 0) → Lat (rowsG C) v → Lat (rowsG B) v
  | 0, i, v, hk, hz, hv => by
    have := tri_from tC hv i (by omega) hz
    rw [List.drop_eq_nil_of_le (by omega)] at this
    exact this.le fun g ⟨r, hr, _⟩ => nomatch hr
  | k + 1, i, v, hk, hz, hv => by
    have hb : B[i]? = some (B[i]'(by omega)) := List.getElem?_eq_getElem (by omega)
    have hc : C[i]? = some (C[i]'(by omega)) := List.getElem?_eq_getElem (by omega)
    generalize B[i]'(by omega) = b at hb
    generalize C[i]'(by omega) = c at hc
    have hd := (tri_step tC hc (tri_from tC hv i (by omega) hz)).1
    have eq : vf b i = vf c i := diag_same lB lC tB tC h n 0 (by omega) (by rw [List.drop_zero, List.drop_zero]; exact e) i b c (by omega) hb hc
    rw [← eq] at hd
    have gb : Lat (rowsG B) (vf b) := Lat.gen ⟨b, List.mem_of_getElem? hb, rfl⟩
    have ih := lat_back lB lC tB tC h e k (i + 1) (fun j => v j - v i / vf b i * vf b j) (by omega) (fun j hj => by
      by_cases z : j = i
      · subst z
        show v j - v j / vf b j * vf b j = 0
        rw [Int.ediv_mul_cancel hd]
        omega
      · show v j - v i / vf b i * vf b j = 0
        rw [hz j (by omega), (tB i b hb).2.1 j (by omega)]
        simp) (hv.comb (h _ gb) _)
    exact (ih.comb gb (-(v i / vf b i))).of_eq fun j => by grind
/-! ### coordinates -/
def comboV : List Int → List (List Int) → Vec
  | k :: ks, b :: B => fun j => k * vf b j + comboV ks B j
  | _, _ => fun _ => 0
theorem combo_lat : ∀ (ks : List Int) (B : List (List Int)), Lat (rowsG B) (comboV ks B)
  | [], _ => Lat.zero.of_eq fun _ => by cases ‹List (List Int)› <;> rfl
  | _ :: _, [] => Lat.zero
  | k :: ks, b :: B => (((combo_lat ks B).le fun g ⟨r, hr, e⟩ => Lat.gen ⟨r, List.mem_cons_of_mem _ hr, e⟩).comb (Lat.gen (G := rowsG (b :: B)) ⟨b, List.mem_cons_self, rfl⟩) (-k)).of_eq fun j => by
    show comboV ks B j - -k * vf b j = k * vf b j + comboV ks B j
    grind
def coordF : Nat → List (List Int) → List Int → List Int
  | _, [], _ => []
  | i, b :: B, v => vf v i / vf b i :: coordF (i + 1) B (axpy (vf v i / vf b i) v b)
theorem coord_len : ∀ (i : Nat) (B : List (List Int)) (v : List Int), (coordF i B v).length = B.length
  | _, [], _ => rfl
  | i, b :: B, v => by
    show (coordF (i + 1) B _).length + 1 = B.length + 1
    rw [coord_len]
theorem coord_ok {n : Nat} {B : List (List Int)} (lB : B.length = n) (tri : Tri n B) : ∀ (k i : Nat) (v : List Int), i + k = n → v.length = n → Lat (rowsG (B.drop i)) (vf v) → ∀ j, vf v j = comboV (coordF i (B.drop i) v) (B.drop i) j
  | 0, i, v, hk, lv, h => fun j => by
    rw [List.drop_eq_nil_of_le (by omega)] at h ⊢
    have : ∀ {u : Vec}, Lat (rowsG []) u → u j = 0 := fun hu => by
      induction hu with
      | zero => rfl
      | step k _ hg _ => exact (nomatch hg.choose_spec.1)
    exact this h
  | k + 1, i, v, hk, lv, h => fun j => by
    have hb : B[i]? = some (B[i]'(by omega)) := List.getElem?_eq_getElem (by omega)
    have hd : B.drop i = B[i]'(by omega) :: B.drop (i + 1) := List.drop_eq_getElem_cons (by omega)
    generalize B[i]'(by omega) = b at hb hd
    obtain ⟨l1, z1, p1⟩ := tri i b hb
    have va := axpy_vf (k := vf v i / vf b i) (a := v) (b := b) (by omega)
    have ih := coord_ok lB tri k (i + 1) (axpy (vf v i / vf b i) v b) (by omega) (by rw [axpy_len (by omega), l1]) (by rw [va]; exact (tri_step tri hb h).2) j
    rw [hd]
    show vf v j = vf v i / vf b i * vf b j + comboV (coordF (i + 1) (B.drop (i + 1)) (axpy (vf v i / vf b i) v b)) (B.drop (i + 1)) j
    rw [← ih, va]
    grind
/-- coordinates are unique -/
theorem combo_inj {n : Nat} {B : List (List Int)} (tri : Tri n B) : ∀ (m i : Nat) (ks ls : List Int), i + m = B.length → ks.length = m → ls.length = m → (∀ j, comboV ks (B.drop i) j = comboV ls (B.drop i) j) → ks = ls
  | 0, _, ks, ls, _, h1, h2, _ => by rw [List.length_eq_zero_iff.mp h1, List.length_eq_zero_iff.mp h2]
  | m + 1, i, k :: ks, l :: ls, hm, h1, h2, h => by
    have hb : B[i]? = some (B[i]'(by omega)) := List.getElem?_eq_getElem (by omega)
    have hd : B.drop i = B[i]'(by omega) :: B.drop (i + 1) := List.drop_eq_getElem_cons (by omega)
    generalize B[i]'(by omega) = b at hb hd
    obtain ⟨l1, z1, p1⟩ := tri i b hb
    rw [hd] at h
    have z : ∀ ks : List Int, comboV ks (B.drop (i + 1)) i = 0 := fun ks => by
      have : ∀ {u : Vec}, Lat (rowsG (B.drop (i + 1))) u → u i = 0 := fun hu => by
        induction hu with
        | zero => rfl
        | step k _ hg ih =>
          obtain ⟨r, hr, rfl⟩ := hg
          obtain ⟨q, hq⟩ := List.getElem?_of_mem hr
          rw [List.getElem?_drop] at hq
          show _ - k * vf r i = 0
          rw [ih, (tri _ r hq).2.1 i (by omega)]
          simp
      exact this (combo_lat ks _)
    have e := h i
    have e2 : k * vf b i + comboV ks (B.drop (i + 1)) i = l * vf b i + comboV ls (B.drop (i + 1)) i := e
    rw [z, z] at e2
    have kl : k = l := Int.eq_of_mul_eq_mul_right (a := vf b i) (by omega) (by omega)
    subst kl
    rw [combo_inj tri m (i + 1) ks ls (by omega) (Nat.succ.inj h1) (Nat.succ.inj h2) fun j => by
      have e3 : k * vf b j + comboV ks (B.drop (i + 1)) j = k * vf b j + comboV ls (B.drop (i + 1)) j := h j
      omega]
/-- multiples of units are in the lattice -/
theorem unit_in {n : Nat} {B : List (List Int)} (lB : B.length = n) (tri : Tri n B) : ∀ (k i : Nat), i + k = n → ∀ j, i ≤ j → j < n → Lat (rowsG (B.drop i)) (unitV j (diagP i (B.drop i)))
  | 0, i, hk => fun j h1 h2 => by omega
  | k + 1, i, hk => fun j h1 h2 => by
    have hb : B[i]? = some (B[i]'(by omega)) := List.getElem?_eq_getElem (by omega)
    have hd : B.drop i = B[i]'(by omega) :: B.drop (i + 1) := List.drop_eq_getElem_cons (by omega)
    generalize B[i]'(by omega) = b at hb hd
    obtain ⟨l1, z1, p1⟩ := tri i b hb
    have up : ∀ {u : Vec}, Lat (rowsG (B.drop (i + 1))) u → Lat (rowsG (b :: B.drop (i + 1))) u := fun hu => hu.le fun g ⟨r, hr, e⟩ => Lat.gen ⟨r, List.mem_cons_of_mem _ hr, e⟩
    have ih := unit_in lB tri k (i + 1) (by omega)
    rw [hd]
    show Lat (rowsG (b :: B.drop (i + 1))) (unitV j (vf b i * diagP (i + 1) (B.drop (i + 1))))
    by_cases e : j = i
    · subst e
      have hs : Lat (rowsG (b :: B.drop (j + 1))) (fun m => if j < m ∧ m < n then vf b m * diagP (j + 1) (B.drop (j + 1)) else 0) := by
        refine (up (Lat.le (G := fun g => ∃ m, j < m ∧ m < n ∧ g = unitV m (diagP (j + 1) (B.drop (j + 1)))) (fun g ⟨m, a, c, e⟩ => by rw [e]; exact ih m (by omega) c) (units_lat (c := j) (n := n) (o := fun _ => diagP (j + 1) (B.drop (j + 1))) (k := fun m => vf b m) (fun m a c => ⟨m, a, c, rfl⟩) n (Nat.le_refl _))))
      refine (((Lat.gen (G := rowsG (b :: B.drop (j + 1))) ⟨b, List.mem_cons_self, rfl⟩).mul (diagP (j + 1) (B.drop (j + 1)))).comb hs 1).of_eq fun m => ?_
      unfold unitV
      by_cases h3 : m = j
      · subst h3
        rw [if_pos rfl, if_neg (by omega)]
        grind
      · rw [if_neg h3]
        by_cases h4 : j < m ∧ m < n
        · rw [if_pos h4]
          grind
        · rw [if_neg h4]
          have : vf b m = 0 := by
            by_cases h5 : m < j
            · exact z1 m h5
            · exact vf_ge (by omega)
          rw [this]
          simp
    · refine ((up (ih j (by omega) h2)).mul (vf b i)).of_eq fun m => ?_
      unfold unitV
      split
      · rfl
      · simp

/-! ### sums, and what separates -/
def sumN : Nat → (Nat → Int) → Int
  | 0, _ => 0
  | n + 1, f => sumN n f + f n
theorem sumN_congr {f g : Nat → Int} : ∀ {n : Nat}, (∀ i, i < n → f i = g i) → sumN n f = sumN n g
  | 0, _ => rfl
  | n + 1, h => by
    show sumN n f + f n = sumN n g + g n
    rw [sumN_congr fun i hi => h i (by omega), h n (by omega)]
theorem sumN_add (f g : Nat → Int) : ∀ n, sumN n (fun i => f i + g i) = sumN n f + sumN n g
  | 0 => rfl
  | n + 1 => by
    show sumN n (fun i => f i + g i) + (f n + g n) = (sumN n f + f n) + (sumN n g + g n)
    rw [sumN_add f g n]
    omega
theorem sumN_mul (k : Int) (f : Nat → Int) : ∀ n, sumN n (fun i => k * f i) = k * sumN n f
  | 0 => by simp [sumN]
  | n + 1 => by
    show sumN n _ + _ = k * (sumN n f + f n)
    rw [sumN_mul k f n, Int.mul_add]
theorem sumN_zero : ∀ n, sumN n (fun _ => 0) = 0
  | 0 => rfl
  | n + 1 => by
    show sumN n _ + 0 = 0
    rw [sumN_zero n]
    rfl
theorem sumN_swap (f : Nat → Nat → Int) (m : Nat) : ∀ n, sumN n (fun i => sumN m fun k => f i k) = sumN m fun k => sumN n fun i => f i k
  | 0 => (sumN_zero m).symm
  | n + 1 => by
    show sumN n _ + sumN m _ = sumN m fun k => sumN n (fun i => f i k) + f n k
    rw [sumN_swap f m n, sumN_add]
theorem sumN_head (f : Nat → Int) : ∀ n, sumN (n + 1) f = f 0 + sumN n fun i => f (i + 1)
  | 0 => by simp [sumN]
  | n + 1 => by
    show sumN (n + 1) f + f (n + 1) = f 0 + (sumN n (fun i => f (i + 1)) + f (n + 1))
    rw [sumN_head f n]
    omega
theorem sumN_unit {n j : Nat} (f : Nat → Int) (h : j < n) : sumN n (fun k => f k * unitV k 1 j) = f j := by
  have key : ∀ m, sumN m (fun k => f k * unitV k 1 j) = if j < m then f j else 0 := by
    intro m
    induction m with
    | zero => rfl
    | succ m ih =>
      show sumN m _ + f m * unitV m 1 j = _
      rw [ih]
      unfold unitV
      by_cases e : j = m
      · subst e
        rw [if_neg (Nat.lt_irrefl _), if_pos rfl, if_pos (Nat.lt_succ_self _)]
        simp
      · rw [if_neg e]
        by_cases h2 : j < m
        · rw [if_pos h2, if_pos (by omega)]
          simp
        · rw [if_neg h2, if_neg (by omega)]
          simp
  rw [key n, if_pos h]
theorem dvd_sumN {d : Int} {f : Nat → Int} : ∀ {n : Nat}, (∀ i, i < n → d ∣ f i) → d ∣ sumN n f
  | 0, _ => Int.dvd_zero _
  | n + 1, h => Int.dvd_add (dvd_sumN fun i hi => h i (by omega)) (h n (by omega))
theorem combo_sum : ∀ (ks : List Int) (B : List (List Int)) (j : Nat), ks.length = B.length → comboV ks B j = sumN B.length fun i => vf ks i * vf (B.getD i []) j
  | [], [], _, _ => rfl
  | k :: ks, b :: B, j, h => by
    show k * vf b j + comboV ks B j = sumN (B.length + 1) _
    rw [sumN_head, combo_sum ks B j (Nat.succ.inj h)]
    rfl
theorem lat_sum {B : List (List Int)} (m : Nat → Int) : ∀ n, n ≤ B.length → Lat (rowsG B) (fun j => sumN n fun i => m i * vf (B.getD i []) j)
  | 0, _ => Lat.zero
  | n + 1, h => by
    have hb : B[n]? = some (B[n]'(by omega)) := List.getElem?_eq_getElem (by omega)
    have e : B.getD n [] = B[n]'(by omega) := by rw [List.getD_eq_getElem?_getD, hb]; rfl
    refine ((lat_sum m n (by omega)).comb (Lat.gen (G := rowsG B) ⟨B[n]'(by omega), List.getElem_mem _, rfl⟩) (-(m n))).of_eq fun j => ?_
    show _ = sumN n (fun i => m i * vf (B.getD i []) j) + m n * vf (B.getD n []) j
    rw [e]
    grind
/-- the coordinates of multiples of the units -/
def colsF (B : List (List Int)) (n k : Nat) : List Int := coordF 0 B (unitL n k (diagP 0 B))
/-- what is told of a vector at i -/
def tellF (B : List (List Int)) (n : Nat) (v : Vec) (i : Nat) : Int := sumN n fun k => v k * vf (colsF B n k) i
section
variable {n : Nat} {B : List (List Int)} (lB : B.length = n) (tri : Tri n B)
include lB tri
theorem cols_ok {k : Nat} (hk : k < n) (j : Nat) : unitV k (diagP 0 B) j = sumN n fun i => vf (colsF B n k) i * vf (B.getD i []) j := by
  have h1 := unit_in lB tri n 0 (by omega) k (by omega) hk
  rw [List.drop_zero] at h1
  have lu : (unitL n k (diagP 0 B)).length = n := by simp [unitL]
  have uv := unitL_vf (n := n) (x := diagP 0 B) hk
  have h2 := coord_ok lB tri n 0 (unitL n k (diagP 0 B)) (by omega) lu (by rw [List.drop_zero, uv]; exact h1) j
  rw [List.drop_zero, uv] at h2
  rw [h2, combo_sum _ _ _ (coord_len _ _ _), lB]
  rfl
theorem tell_combo {v : Vec} (hv : ∀ j, n ≤ j → v j = 0) (j : Nat) : diagP 0 B * v j = sumN n fun i => tellF B n v i * vf (B.getD i []) j := by
  have e1 : (sumN n fun i => tellF B n v i * vf (B.getD i []) j) = sumN n fun i => sumN n fun k => v k * (vf (colsF B n k) i * vf (B.getD i []) j) := sumN_congr fun i _ => by
    unfold tellF
    rw [Int.mul_comm, ← sumN_mul]
    exact sumN_congr fun k _ => by grind
  rw [e1, sumN_swap]
  have e2 : (sumN n fun k => sumN n fun i => v k * (vf (colsF B n k) i * vf (B.getD i []) j)) = sumN n fun k => (v k * diagP 0 B) * unitV k 1 j := sumN_congr fun k hk => by
    rw [sumN_mul, ← cols_ok lB tri hk j]
    unfold unitV
    split <;> simp
  rw [e2]
  by_cases hj : j < n
  · rw [sumN_unit (fun k => v k * diagP 0 B) hj, Int.mul_comm]
  · rw [hv j (by omega)]
    have : (sumN n fun k => (v k * diagP 0 B) * unitV k 1 j) = sumN n fun _ => 0 := sumN_congr fun k hk => by
      unfold unitV
      rw [if_neg (by omega)]
      simp
    rw [this, sumN_zero]
    simp
/-- all told 0: in the lattice -/
theorem tell_in {v : Vec} (hv : ∀ j, n ≤ j → v j = 0) (h : ∀ i, i < n → diagP 0 B ∣ tellF B n v i) : Lat (rowsG B) v := by
  have D0 : 0 < diagP 0 B := by
    have := diag_pos tri n 0 (by omega)
    rwa [List.drop_zero] at this
  refine (lat_sum (B := B) (fun i => tellF B n v i / diagP 0 B) n (by omega)).of_eq fun j => ?_
  refine Int.eq_of_mul_eq_mul_left (a := diagP 0 B) (by omega) ?_
  rw [tell_combo lB tri hv j, ← sumN_mul]
  refine sumN_congr fun i hi => ?_
  rw [← Int.mul_assoc, Int.mul_ediv_cancel' (h i hi)]
theorem tell_of {v : List Int} (lv : v.length = n) (h : Lat (rowsG B) (vf v)) {i : Nat} (hi : i < n) : diagP 0 B ∣ tellF B n (vf v) i := by
  have h2 := fun j => coord_ok lB tri n 0 v (by omega) lv (by rw [List.drop_zero]; exact h) j
  rw [List.drop_zero] at h2
  have lc : (coordF 0 B v).length = n := by rw [coord_len, lB]
  have key := combo_inj tri n 0 ((List.range n).map fun i => tellF B n (vf v) i) ((coordF 0 B v).map fun x => diagP 0 B * x) (by omega) (by simp) (by simp [lc]) (fun j => by
    rw [List.drop_zero, combo_sum _ _ _ (by simp [lB]), combo_sum _ _ _ (by rw [List.length_map, lc, lB]), lB]
    have e1 : (sumN n fun i => vf ((List.range n).map fun i => tellF B n (vf v) i) i * vf (B.getD i []) j) = diagP 0 B * vf v j := by
      rw [tell_combo lB tri (v := vf v) (fun j hj => vf_ge (by omega)) j]
      refine sumN_congr fun i hi => ?_
      rw [vf_at (v := (List.range n).map fun i => tellF B n (vf v) i) (x := tellF B n (vf v) i) (by rw [List.getElem?_map, List.getElem?_range hi]; rfl)]
    rw [e1, h2 j, combo_sum _ _ _ (by rw [lc, lB]), lB, ← sumN_mul]
    refine sumN_congr fun i hi => ?_
    have e3 : (coordF 0 B v)[i]? = some ((coordF 0 B v)[i]'(by omega)) := List.getElem?_eq_getElem (by omega)
    rw [vf_at e3, vf_at (v := (coordF 0 B v).map fun x => diagP 0 B * x) (by rw [List.getElem?_map, e3]; rfl), Int.mul_assoc])
  have e4 : ((List.range n).map fun i => tellF B n (vf v) i)[i]? = some (tellF B n (vf v) i) := by rw [List.getElem?_map, List.getElem?_range hi]; rfl
  rw [key, List.getElem?_map] at e4
  cases e5 : (coordF 0 B v)[i]? with
  | none => rw [e5] at e4; cases e4
  | some x =>
    rw [e5] at e4
    rw [← Option.some.inj e4]
    exact Int.dvd_mul_right _ _
end

def wsum (ws xs : List Int) : Int := (List.zipWith (fun w x => w * x) ws xs).sum

/-- a source of draws stands at s -/
def Src (H : Hp) (s : Addr) : Prop := ∃ a b c : Int, H s = some (.lst [.int a, .int b, .int c])
theorem Src.mono {s : Addr} {H H2 : Hp} (e : Ex H H2) (h : Src H s) : Src H2 s := by
  obtain ⟨a, b, c, h⟩ := h
  exact ⟨a, b, c, e _ _ h⟩
theorem Src.ne {s p : Addr} {H : Hp} (h : Src H s) (hp : H p = none) : p ≠ s := by
  obtain ⟨a, b, c, h⟩ := h
  exact (ne_of_none h hp).symm
theorem Src.new {s p : Addr} {H : Hp} {o : HO} (h : Src H s) (hp : H p = none) : Src (upd H p o) s := Src.mono (exn hp) h
section
variable {P : Program} {w : World} {K : PySem.W.Frag} {mg : Str → Option Value} {base : Heap}
def sp_law_mixed : Sp := fun vs H Q _ => ∃ c d : Int, vs = [.int c, .int d] ∧ ∀ r : Int, 0 ≤ r → r < 2147483563 → Q (.int r) H
theorem ok_law_mixed (T : TX K mg) : FnOk P w K mg base CX0 1 T.f_law_mixed T.fd_law_mixed ["_law_cell", "_law_k"] sp_law_mixed := by
  refine T.F_law_mixed.ok sc_law_mixed (fun vs H Q E h => ?_) (fun cdv A outer s H vs Q E hr h => ?_)
  · obtain ⟨c, d, rfl, _⟩ := h
    rfl
  · obtain ⟨c, d, rfl, k⟩ := h
    refine ⟨_, (pss_cons (ps_set (i := 2) sc_law_mixed.nd rfl (Or.inl rfl) (pe_op op_mod (pe_op op_mulI (pe_op op_add (pe_op op_mod (pv 0) pe_int) pe_int) (pe_op op_add (pe_op op_mulI (pv 1) pe_int) pe_int)) pe_int)) (pss_cons (ps_set (i := 2) sc_law_mixed.nd rfl (Or.inl rfl) (pe_op op_mod (pe_op op_mulI (pe_op op_add (pv 2) (pe_op op_mulI (pe_op op_mod (pe_op op_fdivW (pv 0) pe_int) pe_int) (pe_op op_add (pv 1) pe_int))) pe_int) pe_int)) (pss_cons (ps_set (i := 2) sc_law_mixed.nd rfl (Or.inl rfl) (pe_op op_mod (pe_op op_mulI (pv 2) (pe_op op_add (pe_op op_add (pe_op op_fdivW (pv 2) pe_int) pe_int) (pv 1))) pe_int)) (pss_one (ps_ret (pe_op op_mod (pe_op op_mulI (pv 2) (pe_op op_add (pe_op op_fdivW (pv 2) pe_int) pe_int)) pe_int)))))), ?_⟩
    have a1 := mod_lo (i := c) (n := 2147483646) (by decide)
    have a2 := mod_hi (i := c) (n := 2147483646) (by decide)
    refine ⟨_, rfl, _, _, rfl, rfl, (by show (0 : Int) < _; decide), _, _, rfl, rfl, _, rfl, _, _, rfl, rfl, mul_ok (.inr (by decide)), _, _, rfl, rfl, _, _, rfl, rfl, mul_ok (.inl (by omega)), _, _, rfl, rfl, (by show (0 : Int) < _; decide), ?_⟩
    generalize (c % 2147483646 + 1) * (d * 7919 + 104729) % 2147483647 = n1
    have b1 := mod_lo (i := c / 2147483646) (n := 1000003) (by decide)
    have b2 := mod_hi (i := c / 2147483646) (n := 1000003) (by decide)
    refine ⟨_, rfl, _, rfl, _, _, rfl, rfl, ⟨by decide, by decide +kernel⟩, _, _, rfl, rfl, (by show (0 : Int) < _; decide), _, rfl, _, _, rfl, rfl, _, _, rfl, rfl, mul_ok (.inl (by omega)), _, _, rfl, rfl, _, _, rfl, rfl, mul_ok (.inr (by decide)), _, _, rfl, rfl, (by show (0 : Int) < _; decide), ?_⟩
    have c1 := mod_lo (i := (n1 + c / 2147483646 % 1000003 * (d + 31)) * 48271) (n := 2147483629) (by decide)
    have c2 := mod_hi (i := (n1 + c / 2147483646 % 1000003 * (d + 31)) * 48271) (n := 2147483629) (by decide)
    generalize (n1 + c / 2147483646 % 1000003 * (d + 31)) * 48271 % 2147483629 = n2 at c1 c2
    refine ⟨_, rfl, _, rfl, _, _, rfl, rfl, ⟨by decide, by decide +kernel⟩, _, _, rfl, rfl, _, rfl, _, _, rfl, rfl, _, _, rfl, rfl, mul_ok (.inl (by omega)), _, _, rfl, rfl, (by show (0 : Int) < _; decide), ?_⟩
    have d1 := mod_lo (i := n2 * (n2 / 1013 + 69621 + d)) (n := 2147483587) (by decide)
    have d2 := mod_hi (i := n2 * (n2 / 1013 + 69621 + d)) (n := 2147483587) (by decide)
    generalize n2 * (n2 / 1013 + 69621 + d) % 2147483587 = n3 at d1 d2
    exact ⟨_, rfl, _, rfl, _, _, rfl, rfl, ⟨by decide, by decide +kernel⟩, _, _, rfl, rfl, _, _, rfl, rfl, mul_ok (.inl (by omega)), _, _, rfl, rfl, (by show (0 : Int) < _; decide), k _ (mod_lo (by decide)) (mod_hi (by decide))⟩
def sp_law_source : Sp := fun vs H Q _ => ∃ c : Int, vs = [.int c] ∧ ∀ H2 s, Ex H H2 → H s = none → Src H2 s → Q (.ref s) H2
theorem ok_law_source (T : TX K mg) : FnOk P w K mg base CX0 1 T.f_law_source T.fd_law_source ["_law_cell"] sp_law_source := by
  refine T.F_law_source.ok sc_law_source (fun vs H Q E h => ?_) (fun cdv A outer s H vs Q E hr h => ?_)
  · obtain ⟨c, rfl, _⟩ := h
    rfl
  · obtain ⟨c, rfl, k⟩ := h
    exact ⟨_, (pss_one (ps_ret (pe_lst (pa_cons (pv 0) (pa_cons (pv 0) (pa_cons pe_int pa_nil)))))), ⟨_, rfl, _, rfl, (by show 3 ≤ sizeLine; decide), fun s hs => k _ s (exn hs) hs ⟨c, c, 0, upd_same⟩⟩⟩
def sp_law_take : Sp := fun vs H Q _ => ∃ (s : Addr) (n : Int), vs = [.ref s, .int n] ∧ Src H s ∧ 0 < n ∧ n.natAbs < 2 ^ 8000 ∧ ∀ r H2, 0 ≤ r → r < n → XB s H H2 → Src H2 s → Q (.int r) H2
theorem ok_law_take (T : TX K mg) : FnOk P w K mg base CX0 2 T.f_law_take T.fd_law_take ["_law_source_here", "_law_many"] sp_law_take := by
  refine T.F_law_take.ok sc_law_take (fun vs H Q E h => ?_) (fun cdv A outer s H vs Q E hr h => ?_)
  · obtain ⟨s, n, rfl, _⟩ := h
    rfl
  · obtain ⟨s, n, rfl, ⟨a, b, c, hs⟩, h0, hb, k⟩ := h
    refine ⟨_, (pss_cons (ps_if (pt_cmpR op_ge (pe_ix ix_list (pv 0) pe_int (fun _ _ => rfl)) (pe_op op_pow pe_int pe_int) (nomark _)) (pss_cons (ps_set (i := 2) sc_law_take.nd rfl (Or.inl rfl) (pe_op op_mod (pe_ix ix_list (pv 0) pe_int (fun _ _ => rfl)) (pv 1))) (pss_cons (ps_asg (pe_op op_fdivW (pe_ix ix_list (pv 0) pe_int (fun _ _ => rfl)) (pv 1)) (pg_sub (pv 0) pe_int set_list)) (pss_one (ps_ret (pv 2))))) pss_nil) (pss_cons (ps_asg (pe_op op_add (pe_ix ix_list (pv 0) pe_int (fun _ _ => rfl)) pe_int) (pg_sub (pv 0) pe_int set_list)) (pss_one (ps_ret (pe_op op_mod (pe_call (ok_law_mixed T) hr rfl T.m_law_mixed T.F_law_mixed.kp T.b_law_mixed .nil pass0 (pa_cons (pe_ix ix_list (pv 0) pe_int (fun _ _ => rfl)) (pa_cons (pe_ix ix_list (pv 0) pe_int (fun _ _ => rfl)) pa_nil))) (pv 1)))))), ?_⟩
    refine ⟨_, rfl, s, _, _, _, rfl, rfl, SqL.of hs, rfl, _, _, rfl, rfl, ⟨by decide, by decide, by decide⟩, _, _, rfl, rfl, _, rfl, ?_⟩
    refine ite2 (fun _ => ?_) (fun _ => ?_)
    · refine ⟨_, rfl, s, _, _, _, rfl, rfl, SqL.of hs, rfl, _, rfl, _, _, rfl, rfl, h0, ?_⟩
      refine ⟨_, rfl, s, _, _, _, rfl, rfl, SqL.of hs, rfl, _, rfl, _, _, rfl, rfl, wide_div h0 hb (by decide) (by decide), _, rfl, s, _, _, 0, rfl, rfl, hs, rfl, ?_⟩
      exact ⟨_, rfl, k _ _ (mod_lo h0) (mod_hi h0) XB.upd ⟨_, _, _, upd_same⟩⟩
    · refine ⟨_, rfl, s, _, _, _, rfl, rfl, SqL.of hs, rfl, _, _, rfl, rfl, _, rfl, s, _, _, 2, rfl, rfl, hs, rfl, ?_⟩
      refine ⟨_, rfl, s, _, _, _, rfl, rfl, SqL.of upd_same, rfl, _, rfl, s, _, _, _, rfl, rfl, SqL.of upd_same, rfl, _, _, rfl, fun r _ _ => ?_⟩
      exact ⟨_, rfl, _, _, rfl, rfl, h0, k _ _ (mod_lo h0) (mod_hi h0) XB.upd ⟨_, _, _, upd_same⟩⟩
end

theorem XB.src {s : Addr} {H H2 H3 : Hp} (xb : XB s H H2) (e : Ex H2 H3) : XB s H H3 := xb.trans (XB.of e)
/-- an appended list D, new behind H, beside the source s -/
theorem XB.app {s D : Addr} {H H2 : Hp} {o : HO} (xb : XB s H H2) (hD : H D = none) : XB s H (L2.upd H2 D o) := fun c u n z => by
  rw [upd_ne (ne_of_none z hD)]
  exact xb c u n z
theorem Src.app {s D : Addr} {H : Hp} {o : HO} (h : Src H s) (n : D ≠ s) : Src (upd H D o) s := by
  obtain ⟨a, b, c, z⟩ := h
  exact ⟨a, b, c, by rw [upd_ne n.symm]; exact z⟩
theorem atI_nat {α : Type} {xs : List α} {r : Int} (r0 : 0 ≤ r) (r1 : r < xs.length) : ∃ v, atI xs r = some v ∧ v ∈ xs := by
  have h : r.toNat < xs.length := by omega
  refine ⟨xs[r.toNat], ?_, List.getElem_mem h⟩
  unfold atI ixN
  rw [if_pos r0, if_pos r1]
  show xs[r.toNat]? = _
  rw [List.getElem?_eq_getElem h]
theorem prodL_snoc (ns : List Int) (n : Int) : ns.foldl (fun p n => p * n) 1 * n = (ns ++ [n]).foldl (fun p n => p * n) 1 := by
  rw [List.foldl_append]
  rfl
theorem SeatOk.snoc : ∀ {ns ps : List Int} {n p : Int}, SeatOk ns ps → 0 ≤ p → p < n → SeatOk (ns ++ [n]) (ps ++ [p])
  | [], [], _, _, _, h0, h1 => ⟨⟨h0, h1⟩, True.intro⟩
  | _ :: _, _ :: _, _, _, h, h0, h1 => ⟨h.1, SeatOk.snoc h.2 h0 h1⟩
theorem abs30 {n : Int} (h1 : 1 ≤ n) (h2 : n ≤ 10 ^ 30) : n.natAbs < 2 ^ 100 := by
  have : (10 : Int) ^ 30 < 2 ^ 100 := by decide +kernel
  omega
theorem tup_xb {s q : Addr} {H H2 : Hp} {xs : List V} (src : Src H s) (h : H q = some (.tup xs)) (xb : XB s H H2) : H2 q = some (.tup xs) := by
  obtain ⟨a, b, c, z⟩ := src
  exact xb _ _ (ne_of h z (by intro q; cases q)) h
theorem TabAt.xb {C s a : Addr} {H H2 : Hp} {ns : List Int} (src : Src H s) (xb : XB s H H2) (h : TabAt C H a ns) : TabAt C H2 a ns := by
  obtain ⟨dx, t, h1, h2⟩ := h
  obtain ⟨x, y, c, z⟩ := src
  exact ⟨dx, t, xb _ _ (ne_of h1 z (by intro q; cases q)) h1, xb _ _ (ne_of h2 z (by intro q; cases q)) h2⟩
theorem RowsR.xb {s : Addr} {H H2 : Hp} {xs : List V} {tss : List (List Int)} (h : RowsR H xs tss) (src : Src H s) (xb : XB s H H2) : RowsR H2 xs tss := h.monoT fun _ _ z => tup_xb src z xb
theorem RowsAt.xb {s f : Addr} {H H2 : Hp} {tss : List (List Int)} (h : RowsAt H f tss) (n : f ≠ s) (src : Src H s) (xb : XB s H H2) : RowsAt H2 f tss := by
  obtain ⟨xs, h1, h2⟩ := h
  exact ⟨xs, xb _ _ n h1, h2.xb src xb⟩

structure WitOk (ns : List Int) (m : Int) (ws : List Int) (r : Int) : Prop where
  m3 : 3 ≤ m
  odd : m % 2 = 1
  r0 : 0 ≤ r
  r1 : r < m
  len : ws.length = ns.length
  w0 : ∀ x ∈ ws, 0 ≤ x ∧ x < m
  fit : ∀ (i : Nat) (x n : Int), ws[i]? = some x → ns[i]? = some n → x * n % m = 0
theorem wsum_cons (w : Int) (ws : List Int) (x : Int) (xs : List Int) : wsum (w :: ws) (x :: xs) = w * x + wsum ws xs := by
  unfold wsum
  rw [List.zipWith_cons_cons, List.sum_cons]
theorem wsum_scale {g : Int} : ∀ {ws vs xs : List Int}, ws = vs.map (fun v => g * v) → wsum ws xs = g * wsum vs xs
  | _, [], xs, h => by
    subst h
    simp [wsum]
  | _, v :: vs, [], h => by
    subst h
    simp [wsum]
  | _, v :: vs, x :: xs, h => by
    subst h
    rw [List.map_cons, wsum_cons, wsum_cons, wsum_scale (vs := vs) (xs := xs) rfl]
    grind
theorem wsum_zero : ∀ {ws xs : List Int}, (∀ w ∈ ws, w = 0) → wsum ws xs = 0
  | [], _, _ => by simp [wsum]
  | _ :: _, [], _ => by simp [wsum]
  | w :: ws, x :: xs, h => by
    rw [wsum_cons, h w List.mem_cons_self, wsum_zero fun y hy => h y (List.mem_cons_of_mem _ hy)]
    simp
theorem wsum_unit : ∀ {ws : List Int} {n j : Nat} {x y : Int}, ws.length = n → j < n → ws[j]? = some x → wsum ws (unitL n j y) = x * y := by
  have key : ∀ (ws : List Int) (f : Nat → Int) , wsum ws ((List.range ws.length).map f) = sumN ws.length fun k => f k * vf ws k := by
    intro ws
    induction ws with
    | nil => intro f; rfl
    | cons w ws ih =>
      intro f
      rw [List.length_cons, List.range_succ_eq_map, List.map_cons, List.map_map, wsum_cons, sumN_head, ih (f ∘ Nat.succ)]
      show w * f 0 + _ = f 0 * w + _
      rw [Int.mul_comm w]
      rfl
  intro ws n j x y h hj hx
  subst h
  unfold unitL
  rw [key]
  have e : (sumN ws.length fun k => (if k = j then y else 0) * vf ws k) = sumN ws.length fun k => (y * vf ws k) * unitV k 1 j := sumN_congr fun k _ => by
    unfold unitV
    by_cases e : k = j
    · rw [if_pos e, if_pos e.symm, Int.mul_one]
    · rw [if_neg e, if_neg (fun z => e z.symm)]
      simp
  rw [e, sumN_unit (fun k => y * vf ws k) hj, vf_at hx, Int.mul_comm]
theorem wsum_shiftL {m f : Int} : ∀ {ws ns ps cs : List Int}, ws.length = ns.length → ps.length = ns.length → cs.length = ns.length → (∀ (i : Nat) (x n : Int), ws[i]? = some x → ns[i]? = some n → x * n % m = 0) → m ∣ wsum ws (shiftL ns ps cs f) - (wsum ws ps + f * wsum ws cs)
  | [], [], [], [], _, _, _, _ => by
    show m ∣ 0 - (0 + f * 0)
    simp
  | x :: ws, n :: ns, p :: ps, c :: cs, h1, h2, h3, hf => by
    have ih := wsum_shiftL (m := m) (f := f) (Nat.succ.inj h1) (Nat.succ.inj h2) (Nat.succ.inj h3) fun i x n hx hn => hf (i + 1) x n (by simpa using hx) (by simpa using hn)
    have f0 := Int.dvd_of_emod_eq_zero (hf 0 x n rfl rfl)
    show m ∣ wsum (x :: ws) ((p + f * c) % n :: shiftL ns ps cs f) - _
    rw [wsum_cons, wsum_cons, wsum_cons]
    have e := Int.mul_ediv_add_emod (p + f * c) n
    have d2 : m ∣ x * n * ((p + f * c) / n) := Int.dvd_mul_of_dvd_left f0
    have d3 := Int.dvd_sub ih d2
    refine (congrArg (m ∣ ·) ?_).mp d3
    grind

-- sorts
open PySem.W PySem.Calls in
theorem collect_tuple {prog : Program} {w : World} {A : Around} {E : Value → Shared → Prop} {s : Shared} {l : Addr} {vs : List Value} {Q : List Value → Shared → Prop} (hl : IsTup s.heap l vs.toArray)
    (h : Q vs { s with heap := (s.heap.push (seqObj "list" #[] 0)).update s.heap.objs.size (Obj.mapSeq (· ++ vs.toArray)) }) (hsz : vs.length ≤ sizeLine) :
    wpAny (model prog w) A (collect (.ref l)) Q E s := by
  obtain ⟨o, ho, hc, n, hd⟩ := id hl
  unfold collect
  refine wpAny_bind (wpAny_runValue (codeAny_builtin entry_proto_collect' ?_))
  show wpAny _ _ (do again (.builtin "list.__iadd__" ⟨[← newList [], .ref l], []⟩)) _ _ s
  refine wpAny_bind (wpAny_newList (wpAny_pure ⟨Code.quiet_builtin _ (by decide +kernel), codeAny_builtin entry_list_iadd' ?_⟩))
  show wpAny _ _ (Builtin.List.listExtendWith (.ref s.heap.objs.size) (.ref l) (.ref s.heap.objs.size)) _ _ { s with heap := s.heap.push (seqObj "list" #[] 0) }
  unfold Builtin.List.listExtendWith
  have ho' : (s.heap.push (seqObj "list" #[] 0)).get? l = some o := Heap.get?_push_of_some _ ho
  refine wpAny_bind (wpAny_typeOf (T := "tuple") ⟨o, ho', hc⟩ ?_)
  have ht : (Value.type "tuple" == Value.type "tuple") = true := by rfl
  rw [if_pos (by rw [ht]; simp)]
  refine wpAny_bind (listItems_at ho' hd ?_)
  refine wpAny_bind (listItems_at (xs := #[]) (n := 0) (Heap.get?_push_size _ rfl) rfl ?_)
  rw [if_neg (by simp)]
  refine wpAny_bind (listUpdate_at (xs := #[]) (n := 0) (Heap.get?_push_size _ rfl) rfl ?_ (Nat.zero_le _) (by show (#[] ++ vs.toArray).size ≤ sizeLine + 1; simp only [Array.size_append, List.size_toArray, List.length_nil]; omega))
  refine wpAny_pure ?_
  show wpAny (model prog w) A (do
      let o ← load s.heap.objs.size
      match o.data with
      | .seq xs _ => pure xs.toList
      | _ => unsupported "internal:collect") Q E { s with heap := (s.heap.push (seqObj "list" #[] 0)).update s.heap.objs.size (Obj.mapSeq (· ++ vs.toArray)) }
  refine wpAny_bind (wpAny_load (get?_update_seq (Heap.get?_push_size _ rfl) _) ?_)
  show wpAny _ _ (pure ((#[] : Array Value) ++ vs.toArray).toList) Q E _
  rw [show ((#[] : Array Value) ++ vs.toArray).toList = vs by simp]
  exact wpAny_pure h
open PySem.W PySem.Calls in
theorem sorted_of_tup {prog : Program} {w : World} {A : Around} {E : Value → Shared → Prop} {s : Shared} {l : Addr} {vs : List Value} {Q : Value → Shared → Prop} (hl : IsTup s.heap l vs.toArray) (hL : vs.length ≤ sizeLine)
    (body : ∀ E' : Value → Shared → Prop, wpAny (model prog w) A.in1.in1 (Builtin.«list.sort» ⟨[.ref (s.heap.objs.size + 1)], []⟩) (fun f s' => f = .done (.ret .none) ∧ Q (.ref (s.heap.objs.size + 1)) s') E' { s with heap := copyHeap s.heap vs }) :
    wpAny (model prog w) A (call (.builtin "sorted") [.ref l]) Q E s := by
  refine call_function_entry_kw kind_sorted plain_sorted entry_sorted (args_sorted1 _) ?_
  unfold Builtin.«sorted»
  refine wpAny_bind (m := checkCount "sorted" 1 1 _) (wpAny_pure ?_)
  refine wpAny_bind (collect_tuple hl ?_ hL)
  refine wpAny_bind (wpAny_newList ?_ hL)
  have hsz : ((s.heap.push (seqObj "list" #[] 0)).update s.heap.objs.size (Obj.mapSeq (· ++ vs.toArray))).objs.size = s.heap.objs.size + 1 := by
    rw [Heap.size_update, size_push']
  show wpAny _ _ _ _ _ { s with heap := copyHeap s.heap vs }
  rw [hsz]
  refine wpAny_bind (wpAny_holding (wpAny_call_entry_kw slot_list_sort ⟨_, copyHeap_at s.heap vs, rfl⟩ entry_list_sort ?body (args_list_sort _)))
  case body =>
    show wpAny (model prog w) A.in1.in1 (Builtin.«list.sort» ⟨[.ref (s.heap.objs.size + 1)], []⟩) _ _ _
    refine wpAny_mono (body _) (fun f s' hf => ?_) fun _ _ e => e
    obtain ⟨rfl, hq⟩ := hf
    exact ⟨_, rfl, wpAny_pure ⟨_, rfl, hq⟩⟩
open PySem.W PySem.Calls in
theorem sorted_data_t {prog : Program} {w : World} {A : Around} {E : Value → Shared → Prop} {s : Shared} {β : Type} {vs : List Value} {bs : List β} {enc : β → PyData} {R : Value → β → Prop} {l : Addr} {Q : Value → Shared → Prop} (hl : IsTup s.heap l vs.toArray) (e : EachIs R vs bs) (er : EachIs (fun v b => ∃ as, Reads s.heap v (enc b) as) vs bs) (hal : AllAlike (bs.map enc)) (hk : Sortable (bs.map enc)) (hL : bs.length ≤ sizeLine)
    (hu : ∀ b, b ∈ bs → A.units + 2 + (enc b).depth < cLine) (h : ∀ out, out.length = bs.length → EachIs R out (bs.mergeSort (dataLe false enc)) → Q (.ref (s.heap.objs.size + 1)) { s with heap := sortedAll s.heap vs (List.toArray out) }) :
    wpAny (model prog w) A (call (.builtin "sorted") [.ref l]) Q E s := by
  have er' : EachIs (fun v b => ∃ as, Reads (sortingHeap (copyHeap s.heap vs) (s.heap.objs.size + 1) vs) v (enc b) as) vs bs := er.mono fun _ _ ⟨as, r⟩ => ⟨as, PyProof.Rows.Reads.keeps (fun _ _ => sorting_copy_old) r⟩
  have hL' : vs.length ≤ sizeLine := by rw [e.length]; exact hL
  exact sorted_of_tup hl hL' fun _ => list_sort_vals (s := { s with heap := copyHeap s.heap vs }) (copyHeap_at s.heap vs) (SortsAt.data (s := { s with heap := sortingHeap (copyHeap s.heap vs) (s.heap.objs.size + 1) vs }) (each_map (R := fun v d => ∃ as, Reads (sortingHeap (copyHeap s.heap vs) (s.heap.objs.size + 1) vs) v d as) enc er') hal hk (bound_map hu)) hL' ⟨rfl, h _ (by rw [sortVals_length false rfl]; exact e.length) (sortVals_data false e er' hal)⟩
/-- the order of tuples of ints -/
def leT (a b : List Int) : Bool := PySem.W.dataLe false iT a b
/-- sorted(q), q a list or tuple of tuples of ints -/
def rSortQ (K : PySem.W.Frag) : List V → Hp → VK → Prop := fun vs H Q => ∃ (q : Bool × Addr) (xs : List V) (tss : List (List Int)), vs = [V.ref q.2] ∧ CZ.SqK K H q xs ∧ RowsR H xs tss ∧ (∀ ts ∈ tss, ts ≠ []) ∧
  ∀ (ys : List V) (p : Addr), RowsR H ys (tss.mergeSort leT) → H p = none → Q (.ref p) (upd H p (.lst ys))
open PySem.W in
theorem each_rows {H : Hp} : ∀ {xs : List V} {tss : List (List Int)} {us : List Value}, RowsR H xs tss → Vals xs us → EachIs (fun (u : Value) (ts : List Int) => ∃ t, u = Value.ref t ∧ H t = some (.tup (ts.map V.int))) us tss
  | _, _, _, .nil, .nil => .nil
  | _, _, _, .cons ⟨r, e, h⟩ t, .cons rv tv => by
    subst e
    cases rv
    exact .cons ⟨r, rfl, h⟩ (each_rows t tv)
open PySem.W in
theorem rows_each {H : Hp} : ∀ {us : List Value} {tss : List (List Int)}, EachIs (fun (u : Value) (ts : List Int) => ∃ t, u = Value.ref t ∧ H t = some (.tup (ts.map V.int))) us tss → ∃ ys, RowsR H ys tss ∧ Vals ys us
  | _, _, .nil => ⟨[], .nil, .nil⟩
  | _, _, .cons ⟨t, e, h⟩ r => by
    subst e
    obtain ⟨ys, h1, h2⟩ := rows_each r
    exact ⟨.ref t :: ys, .cons ⟨t, rfl, h⟩ h1, .cons rfl h2⟩
open PySem.W in
theorem each_dp {X : Cx} {pins : List (Addr × Obj)} {σ : L2.St} {H : Hp} {s : Shared} (I : Inv X pins σ H s) : ∀ {us : List Value} {tss : List (List Int)}, EachIs (fun (u : Value) (ts : List Int) => ∃ t, u = Value.ref t ∧ H t = some (.tup (ts.map V.int))) us tss → EachIs (fun v b => ∃ as, Reads s.heap v (iT b) as) us tss
  | _, _, .nil => .nil
  | _, _, .cons ⟨t, e, h⟩ r => by
    subst e
    exact .cons (Dp.reads I _ (.ref t) _ (dp_ints h) rfl) (each_dp I r)
theorem alike_iT (a b : List Int) : PySem.W.alike (iT a) (iT b) = true := by
  show PySem.W.alike (.tuple (a.map .int)) (.tuple (b.map .int)) = true
  rw [PySem.W.alike]
  exact PySem.W.alike_ints a b
theorem cr_sortQ {X : Cx} (hu : X.A.units + 65 < cLine) : CallR X (.builtin "sorted") (rSortQ X.K) := by
  intro pins s σ H vs us Q I r h
  obtain ⟨⟨b, a⟩, xs, tss, rfl, hs, rr, ne, q⟩ := h
  rw [Vals.ref1 r]
  have hk : PySem.W.Sortable (tss.map iT) := .inl fun d hd => by
    obtain ⟨ts, ht, rfl⟩ := List.mem_map.mp hd
    cases ts with
    | nil => exact absurd rfl (ne _ ht)
    | cons x l => exact ⟨_, _, rfl⟩
  have hU : ∀ ts, ts ∈ tss → X.A.units + 2 + (iT ts).depth < cLine := fun ts _ => by
    have e := PySem.W.depth_ints ts
    have : (iT ts).depth = 1 := by
      show PyData.depth (.tuple (ts.map .int)) = 1
      simp only [PyData.depth, e]
    omega
  have fin : ∀ its : List Value, Vals xs its → xs.length ≤ sizeLine → ∀ out, out.length = tss.length → PySem.W.EachIs (fun (u : Value) (ts : List Int) => ∃ t, u = Value.ref t ∧ H t = some (.tup (ts.map V.int))) out (tss.mergeSort (PySem.W.dataLe false iT)) → EP X pins σ Q (.ref (s.heap.objs.size + 1)) { s with heap := sortedAll s.heap its (List.toArray out) } := by
    intro its rv hz out lo eo
    obtain ⟨ys, h1, h2⟩ := rows_each eo
    obtain ⟨ep, he'⟩ := PyProof.Rows.sortedAll_at s.heap its (List.toArray out)
    have hlen : ys.length ≤ sizeLine := by
      rw [h2.length, lo, ← Paired.length rr]
      exact hz
    exact ⟨.ref _, upd H (s.heap.objs.size + 1) (.lst ys), I.laid (t' := s.toks) (fun _ _ => PyProof.Rows.sortedAll_old) (Nat.le_succ _) ⟨hlen, out, ep, h2, he'⟩, rfl, q ys _ h1 (I.hok.fresh (Nat.le_succ _))⟩
  have hal : PySem.W.AllAlike (tss.map iT) := PySem.W.AllAlike.of alike_iT
  cases b with
  | false =>
    obtain ⟨its, rv, hl, hz⟩ := I.list (show SqL X.K H a xs from hs)
    have e := each_rows rr rv
    exact PySem.W.sorted_data (enc := iT) hl.isList e (each_dp I e) hal hk (by rw [← Paired.length rr]; exact hz) hU (fin its rv hz)
  | true =>
    obtain ⟨its, rv, hl, hz⟩ := I.tuple (show SqT X.K H a xs from hs)
    have e := each_rows rr rv
    exact sorted_data_t (enc := iT) hl e (each_dp I e) hal hk (by rw [← Paired.length rr]; exact hz) hU (fin its rv hz)

section
variable {P : Program} {w : World} {K : PySem.W.Frag} {mg : Str → Option Value} {base : Heap}
def sp_weighted : Sp := fun vs H Q _ => ∃ (m : Int) (a b : Addr) (ws ps : List Int), vs = [.int m, .ref a, .ref b] ∧ 0 < m ∧ H a = some (.tup (ws.map V.int)) ∧ H b = some (.tup (ps.map V.int)) ∧ ws.length = ps.length ∧ ps.length ≤ 4 ∧ (∀ w ∈ ws, w.natAbs < 2 ^ 5000) ∧ (∀ p ∈ ps, p.natAbs < 2 ^ 5000) ∧ ∀ H2, Ex H H2 → Q (.int (wsum ws ps % m)) H2
theorem ok_weighted (T : TX K mg) : FnOk P w K mg base CX0 1 T.f_weighted T.fd_weighted ["modulus", "weights", "seat"] sp_weighted := by
  refine T.F_weighted.ok sc_weighted (fun vs H Q E h => ?_) (fun cdv A outer s H vs Q E hr h => ?_)
  · obtain ⟨m, a, b, ws, ps, rfl, _⟩ := h
    rfl
  · obtain ⟨m, a, b, ws, ps, rfl, m0, ha, hb, l, l4, bw, bp, k⟩ := h
    refine ⟨_, (pss_one (ps_ret (pe_op op_mod (pe_callB (cr_sum rfl) (by rfl) T.z_sum (by decide +kernel) (pa_cons (pe_lc (own := [("weight", 3), ("place", 4)]) (g := (gTup K 2 (gCons (gName 3) (gCons (gName 4) gNil)))) rfl sc_weighted.nd (CZ.pi_z2s (fl := [true, true]) rfl (by rfl) T.z_zip (pa_cons (pv 1) (pa_cons (pv 2) pa_nil))) (blkOk_by (N := N_weighted) (sc := defScope s_weighted) (by decide +kernel)) (fun _ _ _ _ _ => (pg_tup rfl (pgs_cons (pg_name (i := 3) sc_weighted.nd rfl (Or.inl rfl)) (pgs_cons (pg_name (i := 4) sc_weighted.nd rfl (Or.inl rfl)) pgs_nil)))) (fun _ _ _ _ _ => pts_nil) (fun _ _ _ _ _ => (pe_op op_mulI (pv 3) (pv 4)))) pa_nil)) (pv 0)))), ?_⟩
    refine ⟨_, rfl, _, rfl, [a, b], rfl, rfl, all2 (sqT ha) (sqT hb), fun D hD => ?_⟩
    refine lc_vals (CZ.walk_rows (xss := [ws.map V.int, ps.map V.int]) (n := ps.length) (lens2 (by rw [List.length_map, l]) (by rw [List.length_map]))) ((List.zipWith (fun w x => w * x) ws ps).map V.int) (by rw [List.length_map, List.length_zipWith, l, Nat.min_self]) (by omega) hD (fun H3 e => .cons (sqT (e _ _ ha)) (.cons (sqT (e _ _ hb)) .nil)) ?_ (gmono_tup (gmono_cons gmono_name (gmono_cons gmono_name gmono_nil))) ?_
    · intro j y H6 H7 R hj e yy kk
      obtain ⟨Tb, p, d, rfl, hTb, rfl, hp, hdd⟩ := yints2 yy
      refine ⟨Tb, _, rfl, SqT.of upd_same, rfl, _, _, rfl, _, _, rfl, rfl, ?_⟩
      refine ⟨rfl, _, rfl, _, rfl, _, _, rfl, rfl, (wide_mul (bw p (List.mem_of_getElem? hp)) (bp d (List.mem_of_getElem? hdd)) (by decide) (by decide) (by decide)).ok, ?_⟩
      refine kk _ _ (exn hTb) ?_
      rw [List.getElem?_map, List.getElem?_zipWith, hp, hdd]
      rfl
    · intro H3 e3 hD3
      exact ⟨D, _, rfl, SqL.of hD3, _, rfl, _, _, rfl, rfl, m0, k _ e3⟩
end

/-- a witness stands at wt -/
def WitAt (H : Hp) (wt : Addr) (m : Int) (ws : List Int) (r : Int) : Prop := ∃ wa, H wt = some (.tup [.int m, .ref wa, .int r]) ∧ H wa = some (.tup (ws.map V.int))
theorem WitAt.mono {H H2 : Hp} {wt : Addr} {m r : Int} {ws : List Int} (e : Ex H H2) (h : WitAt H wt m ws r) : WitAt H2 wt m ws r := by
  obtain ⟨wa, h1, h2⟩ := h
  exact ⟨wa, e _ _ h1, e _ _ h2⟩
section
variable {P : Program} {w : World} {K : PySem.W.Frag} {mg : Str → Option Value} {base : Heap}
end

section
variable {P : Program} {w : World} {K : PySem.W.Frag} {mg : Str → Option Value} {base : Heap}
def sp_law_one : Sp := fun vs H Q _ => ∃ (s l : Addr) (xs : List V), vs = [.ref s, .ref l] ∧ Src H s ∧ H l = some (.lst xs) ∧ l ≠ s ∧ xs ≠ [] ∧ xs.length ≤ 1000 ∧ ∀ (v : V) H2, v ∈ xs → XB s H H2 → Src H2 s → Q v H2
theorem ok_law_one (T : TX K mg) : FnOk P w K mg base CX0 3 T.f_law_one T.fd_law_one ["_law_source_here", "_law_some"] sp_law_one := by
  refine T.F_law_one.ok sc_law_one (fun vs H Q E h => ?_) (fun cdv A outer s H vs Q E hr h => ?_)
  · obtain ⟨s, l, xs, rfl, _⟩ := h
    rfl
  · obtain ⟨s, l, xs, rfl, hs, hl, nl, ne, lx, k⟩ := h
    refine ⟨_, (pss_one (ps_ret (pe_ix ix_list (pv 1) (pe_call (ok_law_take T) hr rfl T.m_law_take T.F_law_take.kp T.b_law_take .nil pass0 (pa_cons (pv 0) (pa_cons (pe_callB call_len_seq (by rfl) T.z_len (by decide +kernel) (pa_cons (pv 1) pa_nil)) pa_nil))) (fun _ _ => rfl)))), ?_⟩
    have pos := List.length_pos_iff.mpr ne
    refine ⟨_, rfl, _, rfl, _, rfl, l, _, rfl, .inl (SqL.of hl), s, _, rfl, hs, (by omega), ?_, fun r H2 r0 r1 xb src => ?_⟩
    · rw [Int.natAbs_natCast]
      exact Nat.lt_of_le_of_lt lx (by decide +kernel)
    obtain ⟨v, hv, hm⟩ := atI_nat r0 r1
    exact ⟨l, _, _, _, rfl, rfl, SqL.of (xb _ _ nl hl), hv, k v _ hm xb src⟩
def sp_law_rings : Sp := fun vs H Q _ => ∃ (s : Addr) (m : Int), vs = [.ref s, .int m] ∧ Src H s ∧ 3 ≤ m ∧ m ≤ 1000000 ∧ ∀ (t : Addr) (ns : List Int) H2, H t = none → H2 t = some (.tup (ns.map V.int)) → SzOk ns → (∀ n ∈ ns, n ≤ 31) → ns.foldl (fun p n => p * n) 1 ≤ m → XB s H H2 → Src H2 s → Q (.ref t) H2
theorem ok_law_rings (T : TX K mg) : FnOk P w K mg base CX0 4 T.f_law_rings T.fd_law_rings ["_law_source_here", "_law_limit"] sp_law_rings := by
  refine T.F_law_rings.ok sc_law_rings (fun vs H Q E h => ?_) (fun cdv A outer s H vs Q E hr h => ?_)
  · obtain ⟨s, m, rfl, _⟩ := h
    rfl
  · obtain ⟨s, m, rfl, hs, m0, m1, k⟩ := h
    refine ⟨_, (pss_cons (ps_set (i := 2) sc_law_rings.nd rfl (Or.inl rfl) (pe_lst pa_nil)) (pss_cons (ps_set (i := 3) sc_law_rings.nd rfl (Or.inl rfl) pe_int) (pss_cons (ps_for PassesOwn.never rfl (pi_range1 rfl T.z_range (pa_cons (pe_op op_add pe_int (pe_call (ok_law_take T) (hr.mono (by decide)) rfl T.m_law_take T.F_law_take.kp T.b_law_take .nil pass0 (pa_cons (pv 0) (pa_cons pe_int pa_nil)))) pa_nil)) (pg_name (i := 4) sc_law_rings.nd rfl (Or.inl rfl)) (pss_cons (ps_set (i := 5) sc_law_rings.nd rfl (Or.inl rfl) (pe_call (ok_law_one T) hr rfl T.m_law_one T.F_law_one.kp T.b_law_one .nil pass0 (pa_cons (pv 0) (pa_cons (pe_lst (pa_cons pe_int (pa_cons pe_int (pa_cons pe_int (pa_cons pe_int (pa_cons pe_int (pa_cons pe_int (pa_cons pe_int (pa_cons pe_int (pa_cons pe_int (pa_cons pe_int (pa_cons pe_int (pa_cons (pe_op op_add pe_int (pe_call (ok_law_take T) (hr.mono (by decide)) rfl T.m_law_take T.F_law_take.kp T.b_law_take .nil pass0 (pa_cons (pv 0) (pa_cons pe_int pa_nil)))) pa_nil))))))))))))) pa_nil)))) (pss_one (ps_if (pt_cmpR op_le (pe_op op_mulI (pv 3) (pv 5)) (pv 1) (nomark _)) (pss_cons (ps_expr (pe_bm PySem.F.plainAttrs_list PySem.F.slot_list_append PySem.F.type_list_append mt_append (pv 2) (pa_cons (pv 5) pa_nil))) (pss_one (ps_set (i := 3) sc_law_rings.nd rfl (Or.inl rfl) (pe_op op_mulI (pv 3) (pv 5))))) pss_nil)))) (pss_one (ps_ret (pe_callTy call_tuple_of (by rfl) T.z_tuple (by decide +kernel) (pa_cons (pe_op (r := rCatR K) op_catR (pv 2) (pe_op op_rep (pe_lst (pa_cons pe_int pa_nil)) (pe_callTy call_int1 (by rfl) T.z_int (by decide +kernel) (pa_cons (pe_cmpR (r := rEqD K) (op_eqD hr.units) (pv 2) (pe_lst pa_nil) (nomark _)) pa_nil)))) pa_nil))))))), ?_⟩
    (repeat (first | refine ⟨rfl, ?_⟩ | refine ⟨_, rfl, ?_⟩ | refine ⟨_, _, rfl, rfl, ?_⟩ | refine ⟨_, _, rfl, ?_⟩ | refine ⟨slen rfl, ?_⟩ | refine ⟨⟨by decide, by decide +kernel⟩, ?_⟩ | refine ⟨⟨by decide, by decide, by decide⟩, ?_⟩ | refine ⟨(by show (0 : Int) < _; first | decide | assumption | omega), ?_⟩ | refine ⟨mul_ok (by first | exact .inr (by decide) | exact .inl (by decide)), ?_⟩))
    (intro l nl; generalize hGl : upd _ l _ = H1; have eH1 := exG hGl nl; have hl := atG hGl; clear hGl)
    have nls : l ≠ s := hs.ne nl
    (repeat (first | refine ⟨rfl, ?_⟩ | refine ⟨_, rfl, ?_⟩ | refine ⟨_, _, rfl, rfl, ?_⟩ | refine ⟨_, _, rfl, ?_⟩ | refine ⟨slen rfl, ?_⟩ | refine ⟨⟨by decide, by decide +kernel⟩, ?_⟩ | refine ⟨⟨by decide, by decide, by decide⟩, ?_⟩ | refine ⟨(by show (0 : Int) < _; first | decide | assumption | omega), ?_⟩ | refine ⟨mul_ok (by first | exact .inr (by decide) | exact .inl (by decide)), ?_⟩))
    refine ⟨hs.mono eH1, by decide, by decide +kernel, fun r H2 r0 r1 xb2 src2 => ?_⟩
    (repeat (first | refine ⟨rfl, ?_⟩ | refine ⟨_, rfl, ?_⟩ | refine ⟨_, _, rfl, rfl, ?_⟩ | refine ⟨_, _, rfl, ?_⟩ | refine ⟨slen rfl, ?_⟩ | refine ⟨⟨by decide, by decide +kernel⟩, ?_⟩ | refine ⟨⟨by decide, by decide, by decide⟩, ?_⟩ | refine ⟨(by show (0 : Int) < _; first | decide | assumption | omega), ?_⟩ | refine ⟨mul_ok (by first | exact .inr (by decide) | exact .inl (by decide)), ?_⟩))
    refine ⟨by omega, by omega, ?_⟩
    have hl2 := xb2 _ _ nls hl
    have xbH : XB s H H2 := (XB.of eH1).trans xb2
    refine for_it walk_range (fun i σ H3 => ∃ (y4 y5 : Option V) (ns : List Int), σ = [some (.ref s), some (.int m), some (.ref l), some (.int (ns.foldl (fun p n => p * n) 1)), y4, y5] ∧ H3 l = some (.lst (ns.map V.int)) ∧ ns.length ≤ i ∧ (∀ n ∈ ns, 1 ≤ n ∧ n ≤ 31) ∧ 1 ≤ ns.foldl (fun p n => p * n) 1 ∧ ns.foldl (fun p n => p * n) 1 ≤ m ∧ XB s H H3 ∧ Src H3 s) ⟨none, none, [], rfl, hl2, Nat.le_refl _, by simp, by decide, by show (1 : Int) ≤ m; omega, xbH, src2⟩ (fun _ _ _ _ _ => True.intro) ?_ ?_
    · rintro i x σ _ H3 hi ⟨y4, y5, ns, rfl, hl3, ln, hn, t1, t2, xb3, src3⟩ ⟨rfl, hx⟩
      obtain rfl : x = .int (i : Int) := hx.trans (congrArg V.int (Int.zero_add _))
      (repeat (first | refine ⟨rfl, ?_⟩ | refine ⟨_, rfl, ?_⟩ | refine ⟨_, _, rfl, rfl, ?_⟩ | refine ⟨_, _, rfl, ?_⟩ | refine ⟨slen rfl, ?_⟩ | refine ⟨⟨by decide, by decide +kernel⟩, ?_⟩ | refine ⟨⟨by decide, by decide, by decide⟩, ?_⟩ | refine ⟨(by show (0 : Int) < _; first | decide | assumption | omega), ?_⟩ | refine ⟨mul_ok (by first | exact .inr (by decide) | exact .inl (by decide)), ?_⟩))
      refine ⟨src3, by decide, by decide +kernel, fun r5 H5 r50 r51 xb5 src5 => ?_⟩
      (repeat (first | refine ⟨rfl, ?_⟩ | refine ⟨_, rfl, ?_⟩ | refine ⟨_, _, rfl, rfl, ?_⟩ | refine ⟨_, _, rfl, ?_⟩ | refine ⟨slen rfl, ?_⟩ | refine ⟨⟨by decide, by decide +kernel⟩, ?_⟩ | refine ⟨⟨by decide, by decide, by decide⟩, ?_⟩ | refine ⟨(by show (0 : Int) < _; first | decide | assumption | omega), ?_⟩ | refine ⟨mul_ok (by first | exact .inr (by decide) | exact .inl (by decide)), ?_⟩))
      (intro al nal; generalize hGal : upd _ al _ = H6; have eH6 := exG hGal nal; have hal := atG hGal; clear hGal)
      have nals : al ≠ s := src5.ne nal
      have hl5 := xb5 _ _ nls hl3
      refine ⟨s, al, _, rfl, src5.mono eH6, hal, nals, by simp, (by show 12 ≤ 1000; decide), fun v H7 hv xb7 src7 => ?_⟩
      obtain ⟨z, rfl, z1, z2⟩ : ∃ z : Int, v = .int z ∧ 1 ≤ z ∧ z ≤ 31 := by
        simp only [List.mem_cons, List.not_mem_nil, or_false] at hv
        rcases hv with rfl | rfl | rfl | rfl | rfl | rfl | rfl | rfl | rfl | rfl | rfl | rfl
        all_goals exact ⟨_, rfl, by omega, by omega⟩
      have hl7 := xb7 _ _ nls (eH6 _ _ hl5)
      have XB7 : XB s H H7 := (xb3.trans xb5).trans ((XB.of eH6).trans xb7)
      have mok : IntMulOk (ns.foldl (fun p n => p * n) 1) z := mul_ok (.inl (by omega))
      refine ⟨_, rfl, _, rfl, _, _, rfl, rfl, mok, _, rfl, _, _, rfl, rfl, _, rfl, ?_⟩
      refine ite2 (fun hc => ?_) (fun hc => ?_)
      · have hc2 := of_decide_eq_true hc
        refine ⟨_, rfl, .inl ⟨rfl, _, SqL.of hl7⟩, _, rfl, l, _, _, rfl, rfl, hl7, ?_, ?_⟩
        · rw [List.length_map]
          have : i < (1 + r).toNat := hi
          exact Nat.lt_of_le_of_lt (show ns.length ≤ 4 by omega) (by decide)
        refine ⟨_, rfl, _, rfl, _, _, rfl, rfl, mok, ?_⟩
        refine ⟨some (.int (i : Int)), some (.int z), ns ++ [z], ?_, ?_, ?_, ?_, ?_, ?_, XB7.app nl, src7.app nls⟩
        · rw [← prodL_snoc]
          rfl
        · rw [upd_same, List.map_append]
          rfl
        · rw [List.length_append]
          show _ + 1 ≤ _
          omega
        · intro n hn2
          rcases List.mem_append.mp hn2 with h | h
          · exact hn n h
          · rw [List.mem_singleton.mp h]
            exact ⟨z1, z2⟩
        · rw [← prodL_snoc]
          exact Int.le_trans z1 (by have := Int.mul_le_mul_of_nonneg_right t1 (show 0 ≤ z by omega); omega)
        · rw [← prodL_snoc]
          exact hc2
      · exact ⟨_, _, ns, rfl, hl7, by omega, hn, t1, t2, XB7, src7⟩
    · rintro σ H3 ⟨y4, y5, ns, rfl, hl3, ln, hn, t1, t2, xb3, src3⟩
      have ln4 : ns.length ≤ 4 := by
        have : ns.length ≤ (1 + r).toNat := ln
        omega
      (repeat (first | refine ⟨rfl, ?_⟩ | refine ⟨_, rfl, ?_⟩ | refine ⟨_, _, rfl, rfl, ?_⟩ | refine ⟨_, _, rfl, ?_⟩ | refine ⟨slen rfl, ?_⟩ | refine ⟨⟨by decide, by decide +kernel⟩, ?_⟩ | refine ⟨⟨by decide, by decide, by decide⟩, ?_⟩ | refine ⟨(by show (0 : Int) < _; first | decide | assumption | omega), ?_⟩ | refine ⟨mul_ok (by first | exact .inr (by decide) | exact .inl (by decide)), ?_⟩))
      (intro b3 nb3; generalize hGb3 : upd _ b3 _ = H4; have eH4 := exG hGb3 nb3; have hb3 := atG hGb3; clear hGb3)
      have nb3 : b3 ≠ s := src3.ne nb3
      (repeat (first | refine ⟨rfl, ?_⟩ | refine ⟨_, rfl, ?_⟩ | refine ⟨_, _, rfl, rfl, ?_⟩ | refine ⟨_, _, rfl, ?_⟩ | refine ⟨slen rfl, ?_⟩ | refine ⟨⟨by decide, by decide +kernel⟩, ?_⟩ | refine ⟨⟨by decide, by decide, by decide⟩, ?_⟩ | refine ⟨(by show (0 : Int) < _; first | decide | assumption | omega), ?_⟩ | refine ⟨mul_ok (by first | exact .inr (by decide) | exact .inl (by decide)), ?_⟩))
      (intro b0 nb0; generalize hGb0 : upd _ b0 _ = H5; have eH5 := exG hGb0 nb0; have hb0 := atG hGb0; clear hGb0)
      have hl5 := eH5 _ _ (eH4 _ _ hl3)
      refine ⟨iL ns, iL [], dp_ilist hl5, dp_ilist hb0, (sh_ilist _).ok, (sh_ilist _).ok, ?_⟩
      rw [eqv_ilist]
      refine .inr ⟨_, rfl, ?_⟩
      have XB5 : XB s H H5 := xb3.trans (XB.of (ext eH4 eH5))
      have src5 := src3.mono (ext eH4 eH5)
      obtain ⟨kk, zs, hk0, hk1, hk2, hz, hok, hle, hpr⟩ : ∃ (kk : Int) (zs : List Int), (if decide (ns = []) = true then (1 : Int) else 0) = kk ∧ 0 ≤ kk ∧ kk ≤ 1 ∧ (List.replicate kk.toNat [V.int 3]).flatten = zs.map V.int ∧ SzOk (ns ++ zs) ∧ (∀ n ∈ ns ++ zs, n ≤ 31) ∧ (ns ++ zs).foldl (fun p n => p * n) 1 ≤ m := by
        by_cases hns : ns = []
        · subst hns
          exact ⟨1, [3], rfl, by decide, by decide, rfl, ⟨by decide, by decide, by decide⟩, by decide, m0⟩
        · refine ⟨0, [], by simp [hns], by decide, by decide, rfl, ⟨by simpa using hns, by simpa using ln4, fun n h => (hn n (by simpa using h)).1⟩, fun n h => (hn n (by simpa using h)).2, by rw [List.append_nil]; exact t2⟩
      rw [hk0]
      refine ⟨b3, kk, _, rfl, rfl, eH5 _ _ hb3, by omega, by omega, ?_, ?_⟩
      · show 1 * kk.toNat ≤ sizeLine
        exact Nat.le_trans (show _ ≤ 1 by omega) (by decide)
      rw [hz]
      (intro b4 nb4; generalize hGb4 : upd _ b4 _ = H6; have eH6 := exG hGb4 nb4; have hb4 := atG hGb4; clear hGb4)
      refine ⟨l, b4, _, _, rfl, rfl, SqL.of (eH6 _ _ hl5), SqL.of hb4, ?_, ?_⟩
      · have := hok.le
        rw [List.length_append] at this
        rw [List.length_map, List.length_map]
        exact Nat.le_trans this (by decide)
      rw [← List.map_append]
      (intro b5 nb5; generalize hGb5 : upd _ b5 _ = H7; have eH7 := exG hGb5 nb5; have hb5 := atG hGb5; clear hGb5)
      refine ⟨b5, _, rfl, .inl ⟨SqL.of hb5, fun t ht => ?_⟩⟩
      have e7 : Ex H5 H7 := ext eH6 eH7
      have XB7 := XB5.trans (XB.of e7)
      have src7 := src5.mono e7
      exact k t _ _ (XB7.back (src7.ne ht) ht) upd_same hok hle hpr (XB7.trans (XB.of (exn ht))) (src7.new ht)
end

section
variable {P : Program} {w : World} {K : PySem.W.Frag} {mg : Str → Option Value} {base : Heap}
def sp_law_seat : Sp := fun vs H Q _ => ∃ (s l : Addr) (ns : List Int), vs = [.ref s, .ref l] ∧ Src H s ∧ H l = some (.tup (ns.map V.int)) ∧ SzOk ns ∧ (∀ n ∈ ns, n.natAbs < 2 ^ 5000) ∧
  ∀ (q : Addr) (ps : List Int) H2, H q = none → H2 q = some (.tup (ps.map V.int)) → SeatOk ns ps → XB s H H2 → Src H2 s → Q (.ref q) H2
theorem ok_law_seat (T : TX K mg) : FnOk P w K mg base CX0 3 T.f_law_seat T.fd_law_seat ["_law_source_here", "_law_rings_here"] sp_law_seat := by
  refine T.F_law_seat.ok sc_law_seat (fun vs H Q E h => ?_) (fun cdv A outer s H vs Q E hr h => ?_)
  · obtain ⟨s, l, ns, rfl, _⟩ := h
    rfl
  · obtain ⟨s, l, ns, rfl, hs, hl, ok, hB, k⟩ := h
    refine ⟨_, (pss_one (ps_ret (pe_callTy call_tuple_of (by rfl) T.z_tuple (by decide +kernel) (pa_cons (pe_lc (own := [("_law_size", 2)]) (g := (gName 2)) rfl sc_law_seat.nd (pi_tup (pv 1)) (blkOk_by (N := N_law_seat) (sc := defScope s_law_seat) (by decide +kernel)) (fun _ _ _ _ _ => (pg_name (i := 2) sc_law_seat.nd rfl (Or.inl rfl))) (fun _ _ _ _ _ => pts_nil) (fun _ _ _ _ _ => (pe_call (ok_law_take T) hr rfl T.m_law_take T.F_law_take.kp T.b_law_take .nil pass0 (pa_cons (pv 0) (pa_cons (pv 2) pa_nil))))) pa_nil)))), ?_⟩
    refine ⟨_, rfl, l, rfl, ⟨_, SqT.of hl⟩, fun D hD => ?_⟩
    have nD : D ≠ s := hs.ne hD
    refine lc_it (walk_tup (xs := ns.map V.int)) (fun i H2 => ∃ ps : List Int, H2 D = some (.lst (ps.map V.int)) ∧ SeatOk (ns.take i) ps ∧ XB s H H2 ∧ Src H2 s) ⟨[], upd_same, True.intro, XB.of (exn hD), hs.new hD⟩ (fun i H2 _ ⟨ps, _, _, xb, _⟩ => SqT.of (tup_xb hs hl xb)) ?_ ?_
    · rintro i x H2 H3 hi ⟨ps, hD2, sk, xb, src⟩ ⟨rfl, hx⟩
      obtain ⟨n, hn, rfl⟩ := map_get hx
      have n1 := ok.one n (List.mem_of_getElem? hn)
      have n2 := hB n (List.mem_of_getElem? hn)
      refine ⟨rfl, _, rfl, _, rfl, s, n, rfl, src, by omega, ?_, fun r H4 r0 r1 xb4 src4 => ?_⟩
      · exact Nat.lt_of_lt_of_le n2 (Nat.pow_le_pow_right (by decide) (by decide))
      refine ⟨ps.map V.int, xb4 _ _ nD hD2, ?_, ps ++ [r], ?_, ?_, (xb.trans xb4).app hD, src4.app nD⟩
      · have hl4 := ok.le
        have := sk.len
        rw [List.length_take] at this
        rw [List.length_map]
        exact Nat.lt_of_le_of_lt (show ps.length ≤ 4 by omega) (by decide)
      · rw [upd_same, List.map_append]
        rfl
      · rw [take_more hn]
        exact sk.snoc r0 r1
    · rintro H2 ⟨ps, hD2, sk, xb, src⟩
      refine ⟨D, _, rfl, .inl ⟨SqL.of hD2, fun q hq => ?_⟩⟩
      rw [List.length_map, List.take_length] at sk
      have nq := src.ne hq
      exact k q ps _ (xb.back nq hq) upd_same sk (xb.trans (XB.of (exn hq))) (src.new hq)
end

/-- all seats, in ascending order -/
def crossS (hss : List (List Int)) (n : Int) : List (List Int) := hss.flatMap fun hs => (List.range n.toNat).map fun (i : Nat) => hs ++ [(i : Int)]
def allS (ns : List Int) : List (List Int) := ns.foldl crossS [[]]
theorem allS_snoc (ns : List Int) (n : Int) : allS (ns ++ [n]) = crossS (allS ns) n := by
  unfold allS
  rw [List.foldl_append]
  rfl
theorem crossS_snoc (hss : List (List Int)) (hs : List Int) (n : Int) : crossS (hss ++ [hs]) n = crossS hss n ++ (List.range n.toNat).map fun (i : Nat) => hs ++ [(i : Int)] := by
  unfold crossS
  rw [List.flatMap_append]
  simp
theorem crossS_len (n : Int) : ∀ hss : List (List Int), (crossS hss n).length = hss.length * n.toNat
  | [] => by simp [crossS]
  | h :: hss => by
    have ih := crossS_len n hss
    unfold crossS at ih ⊢
    rw [List.flatMap_cons, List.length_append, ih, List.length_map, List.length_range, List.length_cons, Nat.succ_mul, Nat.add_comm]
def prodL (ns : List Int) : Int := ns.foldl (fun p n => p * n) 1
theorem prodS_snoc (ns : List Int) (n : Int) : prodL (ns ++ [n]) = prodL ns * n := by
  unfold prodL
  rw [List.foldl_append]
  rfl
theorem fold_mul (ns : List Int) : ∀ p : Int, ns.foldl (fun p n => p * n) p = p * ns.foldl (fun p n => p * n) 1 := by
  induction ns with
  | nil => intro p; simp
  | cons n ns ih =>
    intro p
    rw [List.foldl_cons, List.foldl_cons, ih (p * n), ih (1 * n), Int.one_mul, Int.mul_assoc]
theorem prodL_cons (n : Int) (ns : List Int) : prodL (n :: ns) = n * prodL ns := by
  unfold prodL
  rw [List.foldl_cons, fold_mul, Int.one_mul]
theorem prodL_pos : ∀ {ns : List Int}, (∀ n ∈ ns, 1 ≤ n) → 1 ≤ prodL ns
  | [], _ => by decide
  | n :: ns, h => by
    rw [prodL_cons]
    exact Int.mul_pos (by have := h n List.mem_cons_self; omega) (by have := prodL_pos (fun m hm => h m (List.mem_cons_of_mem _ hm)); omega)
theorem prodL_take : ∀ {ns : List Int} (i : Nat), (∀ n ∈ ns, 1 ≤ n) → prodL (ns.take i) ≤ prodL ns
  | [], _, _ => by simp
  | n :: ns, 0, h => by
    rw [List.take_zero]
    exact prodL_pos h
  | n :: ns, i + 1, h => by
    rw [List.take_succ_cons, prodL_cons, prodL_cons]
    exact Int.mul_le_mul_of_nonneg_left (prodL_take i fun m hm => h m (List.mem_cons_of_mem _ hm)) (by have := h n List.mem_cons_self; omega)
theorem foldS_len : ∀ (ns : List Int) (hss : List (List Int)), (∀ n ∈ ns, 1 ≤ n) → ((ns.foldl crossS hss).length : Int) = hss.length * prodL ns
  | [], hss, _ => by simp [prodL]
  | n :: ns, hss, h => by
    have n1 := h n List.mem_cons_self
    rw [List.foldl_cons, foldS_len ns _ fun m hm => h m (List.mem_cons_of_mem _ hm), crossS_len, prodL_cons, Int.natCast_mul, Int.toNat_of_nonneg (by omega), Int.mul_assoc]
theorem allS_len {ns : List Int} (h : ∀ n ∈ ns, 1 ≤ n) : ((allS ns).length : Int) = prodL ns := by
  unfold allS
  rw [foldS_len ns _ h]
  simp
theorem mem_foldS : ∀ (ns : List Int) (hss : List (List Int)) (p : List Int), p ∈ ns.foldl crossS hss ↔ ∃ h ∈ hss, ∃ q, SeatOk ns q ∧ p = h ++ q
  | [], hss, p => by
    constructor
    · intro h
      exact ⟨p, h, [], True.intro, by simp⟩
    · rintro ⟨h, hh, q, sk, rfl⟩
      cases q with
      | nil => rw [List.append_nil]; exact hh
      | cons x q => exact sk.elim
  | n :: ns, hss, p => by
    rw [List.foldl_cons, mem_foldS ns]
    constructor
    · rintro ⟨h, hh, q, sk, rfl⟩
      obtain ⟨g, hg, hh⟩ := List.mem_flatMap.mp hh
      obtain ⟨i, hi, rfl⟩ := List.mem_map.mp hh
      have := List.mem_range.mp hi
      exact ⟨g, hg, (i : Int) :: q, ⟨⟨by omega, by omega⟩, sk⟩, by simp⟩
    · rintro ⟨h, hh, q, sk, rfl⟩
      cases q with
      | nil => exact sk.elim
      | cons x q =>
        obtain ⟨⟨x0, x1⟩, sk⟩ : (0 ≤ x ∧ x < n) ∧ SeatOk ns q := sk
        refine ⟨h ++ [x], List.mem_flatMap.mpr ⟨h, hh, List.mem_map.mpr ⟨x.toNat, List.mem_range.mpr (by omega), by rw [Int.toNat_of_nonneg x0]⟩⟩, q, sk, by simp⟩
theorem mem_allS {ns p : List Int} : p ∈ allS ns ↔ SeatOk ns p := by
  unfold allS
  rw [mem_foldS]
  constructor
  · rintro ⟨h, hh, q, sk, rfl⟩
    rw [List.mem_singleton.mp hh]
    exact sk
  · intro sk
    exact ⟨[], List.mem_singleton.mpr rfl, p, sk, rfl⟩
theorem rows_allS {ns : List Int} : ∀ hs ∈ allS ns, hs.length = ns.length := fun hs h => (mem_allS.mp h).len
/-- the seat as far behind p as o is ahead -/
def mirL : List Int → List Int → List Int → List Int
  | n :: ns, p :: ps, o :: os => ((2 * p - o) % n) :: mirL ns ps os
  | _, _, _ => []
theorem mirL_len : ∀ {ns ps os : List Int}, ps.length = ns.length → os.length = ns.length → (mirL ns ps os).length = ns.length
  | [], _, _, _, _ => by cases ‹List Int› <;> cases ‹List Int› <;> rfl
  | n :: ns, p :: ps, o :: os, h1, h2 => by
    simp only [mirL, List.length_cons] at *
    rw [mirL_len (by omega) (by omega)]
theorem mirL_get : ∀ {ns ps os : List Int} {i : Nat} {n p o : Int}, ns[i]? = some n → ps[i]? = some p → os[i]? = some o → (mirL ns ps os)[i]? = some ((2 * p - o) % n)
  | n :: ns, p :: ps, o :: os, 0, _, _, _, h1, h2, h3 => by
    simp at h1 h2 h3
    subst h1 h2 h3
    rfl
  | n :: ns, p :: ps, o :: os, i + 1, _, _, _, h1, h2, h3 => by
    rw [List.getElem?_cons_succ] at h1 h2 h3
    show (mirL ns ps os)[i]? = _
    exact mirL_get h1 h2 h3
  | [], _, _, _, _, _, _, h1, _, _ => by simp at h1
  | _ :: _, [], _, _, _, _, _, _, h1, _ => by simp at h1
  | _ :: _, _ :: _, [], _, _, _, _, _, _, h1 => by simp at h1
theorem mirL_seat : ∀ {ns ps os : List Int}, (∀ n ∈ ns, 1 ≤ n) → ps.length = ns.length → os.length = ns.length → SeatOk ns (mirL ns ps os)
  | [], _, _, _, _, _ => by cases ‹List Int› <;> cases ‹List Int› <;> exact True.intro
  | n :: ns, p :: ps, o :: os, h, h1, h2 => by
    have n1 := h n List.mem_cons_self
    exact ⟨⟨Int.emod_nonneg _ (by omega), Int.emod_lt_of_pos _ (by omega)⟩, mirL_seat (fun m hm => h m (List.mem_cons_of_mem _ hm)) (by simpa using h1) (by simpa using h2)⟩
/-- the call that leads from p to o -/
def toL : List Int → List Int → List Int → List Int
  | n :: ns, p :: ps, o :: os => ((o - p) % n) :: toL ns ps os
  | _, _, _ => []
theorem toL_len : ∀ {ns ps os : List Int}, ps.length = ns.length → os.length = ns.length → (toL ns ps os).length = ns.length
  | [], _, _, _, _ => by cases ‹List Int› <;> cases ‹List Int› <;> rfl
  | n :: ns, p :: ps, o :: os, h1, h2 => by
    simp only [toL, List.length_cons] at *
    rw [toL_len (by omega) (by omega)]
theorem toL_get : ∀ {ns ps os : List Int} {i : Nat} {n p o : Int}, ns[i]? = some n → ps[i]? = some p → os[i]? = some o → (toL ns ps os)[i]? = some ((o - p) % n)
  | n :: ns, p :: ps, o :: os, 0, _, _, _, h1, h2, h3 => by
    simp at h1 h2 h3
    subst h1 h2 h3
    rfl
  | n :: ns, p :: ps, o :: os, i + 1, _, _, _, h1, h2, h3 => by
    rw [List.getElem?_cons_succ] at h1 h2 h3
    show (toL ns ps os)[i]? = _
    exact toL_get h1 h2 h3
  | [], _, _, _, _, _, _, h1, _, _ => by simp at h1
  | _ :: _, [], _, _, _, _, _, _, h1, _ => by simp at h1
  | _ :: _, _ :: _, [], _, _, _, _, _, _, h1 => by simp at h1
/-- the number of a seat in a list of numbers -/
def dep (fs : List (List Int × Nat)) (p : List Int) : Option Nat := (fs.find? fun q => decide (q.1 = p)).map (·.2)
abbrev keysL (fs : List (List Int × Nat)) : List (List Int) := fs.map (·.1)
theorem dep_cons (f : List Int × Nat) (fs : List (List Int × Nat)) (p : List Int) : dep (f :: fs) p = if f.1 = p then some f.2 else dep fs p := by
  unfold dep
  rw [List.find?_cons]
  by_cases c : f.1 = p
  · rw [decide_eq_true c, if_pos c]
    rfl
  · rw [decide_eq_false c, if_neg c]
theorem dep_isSome {fs : List (List Int × Nat)} {p : List Int} : (dep fs p).isSome = decide (p ∈ keysL fs) := by
  induction fs with
  | nil => simp [dep]
  | cons f fs ih =>
    rw [dep_cons]
    by_cases c : f.1 = p
    · rw [if_pos c]
      simp [c]
    · rw [if_neg c, ih]
      have : ¬ p = f.1 := fun z => c z.symm
      simp [this]
/-- the seats that join next -/
def newL (ns : List Int) (fs : List (List Int × Nat)) (miss newest : List (List Int)) : List (List Int) := miss.filter fun s => newest.any fun o => decide (mirL ns s o ∈ keysL fs)
abbrev atD (d : Nat) (ps : List (List Int)) : List (List Int × Nat) := ps.map fun p => (p, d)
def missL (fs : List (List Int × Nat)) (miss : List (List Int)) : List (List Int) := miss.filter fun s => decide (s ∉ keysL fs)
def roundsL (ns : List Int) : Nat → List (List Int × Nat) → List (List Int) → List (List Int) → Nat → List (List Int × Nat)
  | 0, fs, _, _, _ => fs
  | f + 1, fs, miss, newest, d => if newest = [] then fs else
    roundsL ns f (fs ++ atD (d + 1) (newL ns fs miss newest)) (missL (fs ++ atD (d + 1) (newL ns fs miss newest)) miss) (newL ns fs miss newest) (d + 1)
def countsL (ns : List Int) (tss : List (List Int)) : List (List Int × Nat) := roundsL ns ((allS ns).length + 2) (atD 0 tss) (missL (atD 0 tss) (allS ns)) tss 0
theorem crossS_nodup {hss : List (List Int)} (n : Int) (h : hss.Nodup) : (crossS hss n).Nodup := by
  unfold crossS
  unfold List.Nodup at h ⊢
  rw [List.pairwise_flatMap]
  constructor
  · intro hs _
    rw [List.pairwise_map]
    refine List.Pairwise.imp (fun {a b} z e => z ?_) List.nodup_range
    have := (List.append_inj' e rfl).2
    exact Int.ofNat.inj (List.cons.inj this).1
  · refine h.imp fun {a b} z x hx y hy e => z ?_
    obtain ⟨i, _, rfl⟩ := List.mem_map.mp hx
    obtain ⟨j, _, rfl⟩ := List.mem_map.mp hy
    exact (List.append_inj' e rfl).1
theorem allS_nodup (ns : List Int) : (allS ns).Nodup := by
  unfold allS
  have : ∀ (ns : List Int) (hss : List (List Int)), hss.Nodup → (ns.foldl crossS hss).Nodup := fun ns => by
    induction ns with
    | nil => exact fun _ h => h
    | cons n ns ih => exact fun hss h => ih _ (crossS_nodup n h)
  exact this ns _ (by simp)
theorem filter_two {α : Type} {c d : α → Bool} : ∀ {l : List α}, (∀ x ∈ l, c x = true → d x = false) → (l.filter c).length + (l.filter d).length ≤ l.length
  | [], _ => by simp
  | x :: l, h => by
    have ih := filter_two (l := l) fun y hy => h y (List.mem_cons_of_mem _ hy)
    rw [List.filter_cons, List.filter_cons]
    cases hc : c x
    · cases d x <;> simp <;> omega
    · rw [h x List.mem_cons_self hc]
      simp
      omega
theorem newL_sub {ns : List Int} {fs : List (List Int × Nat)} {miss newest : List (List Int)} {p : List Int} (h : p ∈ newL ns fs miss newest) : p ∈ miss := (List.mem_filter.mp h).1
theorem keys_app (fs gs : List (List Int × Nat)) : keysL (fs ++ gs) = keysL fs ++ keysL gs := List.map_append
theorem mem_missL {fs : List (List Int × Nat)} {miss : List (List Int)} {p : List Int} : p ∈ missL fs miss ↔ p ∈ miss ∧ p ∉ keysL fs := by
  unfold missL
  rw [List.mem_filter, decide_eq_true_iff]

/-- a dict of numbers by seats -/
abbrev entK (p : List Int) : List L2.Key := p.map Sum.inl
abbrev entV (q : List Int × Nat) : List L2.Key × V := (entK q.1, V.int (q.2 : Int))
theorem entK_kV (p : List Int) : (entK p).map kV = p.map V.int := by rw [List.map_map]; rfl
theorem entK_inj {p q : List Int} (h : entK p = entK q) : p = q := by
  induction p generalizing q with
  | nil =>
    cases q with
    | nil => rfl
    | cons => cases h
  | cons a p ih =>
    cases q with
    | nil => cases h
    | cons b q =>
      obtain ⟨h1, h2⟩ := List.cons.inj h
      rw [Sum.inl.inj h1, ih h2]
def CntAt (H : Hp) (d : Addr) (fs : List (List Int × Nat)) : Prop := H d = some (.dT (fs.map entV))
theorem CntAt.mono {H H2 : Hp} {d : Addr} {fs : List (List Int × Nat)} (e : Ex H H2) (h : CntAt H d fs) : CntAt H2 d fs := e _ _ h
theorem val_ent (p : List Int) : ∀ fs : List (List Int × Nat), valV (fs.map entV) (entK p) = (dep fs p).map fun d : Nat => V.int (d : Int)
  | [] => rfl
  | f :: fs => by
    rw [List.map_cons]
    by_cases c : f.1 = p
    · rw [valV_pos (show entK f.1 = entK p by rw [c])]
      unfold dep
      rw [List.find?_cons, decide_eq_true c]
      rfl
    · rw [valV_neg (fun z => c (entK_inj z)), val_ent p fs]
      unfold dep
      rw [List.find?_cons, decide_eq_false c]
theorem cnt_get {H : Hp} {d r : Addr} {fs : List (List Int × Nat)} {p : List Int} (h : CntAt H d fs) (hr : H r = some (.tup (p.map V.int))) : DGet H d (.ref r) ((dep fs p).map fun d : Nat => V.int (d : Int)) := by
  rw [← val_ent]
  exact DGet.t h (by rw [entK_kV]; exact hr)
theorem tup_dict {q D : Addr} {H : Hp} {kvs : List (List L2.Key × V)} {ys : List V} {o : HO} (hD : H D = some (.dT kvs)) (h : H q = some (.tup ys)) : upd H D o q = some (.tup ys) := by
  rw [upd_ne (ne_of h hD (by intro z; cases z))]
  exact h
section
variable {P : Program} {w : World} {K : PySem.W.Frag} {mg : Str → Option Value} {base : Heap}
def sp_all_seats (C : Addr) : Sp := fun vs H Q _ => ∃ (a : Addr) (ns : List Int), vs = [.ref a] ∧ TabAt C H a ns ∧ SzOk ns ∧ prodL ns ≤ 300 ∧ ∀ q H2, Ex H H2 → H q = none → RowsAt H2 q (allS ns) → Q (.ref q) H2
theorem ok_all_seats (T : TX K mg) : FnOk P w K mg base CX0 2 T.f_all_seats T.fd_all_seats ["table"] (sp_all_seats T.C_Table) := by
  refine T.F_all_seats.ok sc_all_seats (fun vs H Q E h => ?_) (fun cdv A outer s H vs Q E hr h => ?_)
  · obtain ⟨a, ns, rfl, _⟩ := h
    rfl
  · obtain ⟨a, ns, rfl, ⟨dx, t, h1, h2⟩, ok, pr, k⟩ := h
    have l4 := ok.le
    refine ⟨_, (pss_cons (ps_set (i := 1) sc_all_seats.nd rfl (Or.inl rfl) (pe_lst (pa_cons (pe_tup pa_nil) pa_nil))) (pss_cons (ps_for PassesOwn.never rfl (pi_tup (pe_meth0 (pv 0) T.cl_Table T.me_Table_sizes (ok_Table_sizes T) hr T.b_Table_sizes .nil pass0)) (pg_name (i := 2) sc_all_seats.nd rfl (Or.inr rfl)) (pss_one (ps_setLc2 (own := [("start", 3), ("place", 4)]) (g := (gName 3)) (g1 := (gName 4)) (vs1 := [4]) (i := 1) rfl sc_all_seats.nd rfl rfl (sw_true rfl rfl rfl (by decide +kernel)) (pi_list (pv 1)) (blkOk_by (N := N_all_seats) (sc := defScope s_all_seats) (by decide +kernel)) (by decide) (fun _ _ _ _ _ => (pg_name (i := 3) sc_all_seats.nd rfl (Or.inl rfl))) (fun _ _ _ _ _ => pts_nil) (fun _ _ _ _ _ => (pi_range1 rfl T.z_range (pa_cons (pv 2) pa_nil))) (fun _ _ _ _ _ => (pg_name (i := 4) sc_all_seats.nd rfl (Or.inl rfl))) (fun _ _ _ _ _ => pts_nil) (fun _ _ _ _ _ => (pe_op (r := rCatA K) op_catA (pv 3) (pe_tup (pa_cons (pv 4) pa_nil))))))) (pss_one (ps_ret (pv 1))))), ?_⟩
    refine ⟨by show 0 ≤ sizeLine; decide, fun u hu => ⟨by show 1 ≤ sizeLine; decide, fun f hf => ?_⟩⟩
    have e2 : Ex H (upd (upd H u (.tup [])) f (.lst [.ref u])) := ext (exn hu) (exn hf)
    have f0 : H f = none := Evl.fresh_back (exn hu) hf
    refine ⟨_, rfl, a, dx, _, rfl, e2 _ _ h1, rfl, a, dx, t, rfl, e2 _ _ h1, t, rfl, ⟨_, SqT.of (e2 _ _ h2)⟩, ?_⟩
    refine for_it (walk_tup (xs := ns.map V.int)) (fun i σ H2 => ∃ (f : Addr) (y1 y2 y3 : Option V), σ = [some (.ref a), some (.ref f), y1, y2, y3] ∧ Ex H H2 ∧ H f = none ∧ RowsAt H2 f (allS (ns.take i))) ⟨_, _, _, _, rfl, e2, f0, _, upd_same, .cons ⟨u, rfl, by rw [upd_ne (ne_of_none upd_same hf)]; exact upd_same⟩ .nil⟩ (fun i σ H2 _ ⟨_, _, _, _, _, e, _⟩ => SqT.of (e _ _ h2)) ?_ ?_
    · rintro i x σ _ H4 hi ⟨f, y1, y2, y3, rfl, e4, f0, ra⟩ ⟨rfl, hx⟩
      obtain ⟨n, hn, rfl⟩ := map_get hx
      have n1 := ok.one n (List.mem_of_getElem? hn)
      have ezs := take_more hn
      have o1 : ∀ m ∈ ns.take i, 1 ≤ m := fun m hm => ok.one m (List.mem_of_mem_take hm)
      have len : ((allS (ns.take i)).length : Int) ≤ 300 := by
        rw [allS_len o1]
        exact Int.le_trans (prodL_take i ok.one) pr
      have nb : n ≤ 300 := by
        have a1 : prodL (ns.take (i + 1)) ≤ prodL ns := prodL_take (i + 1) ok.one
        rw [ezs, prodS_snoc] at a1
        have a2 := prodL_pos o1
        have a3 : 1 * n ≤ prodL (ns.take i) * n := Int.mul_le_mul_of_nonneg_right a2 (by omega)
        omega
      have rows : ∀ hs ∈ allS (ns.take i), hs.length ≤ 4 := fun hs hh => by
        rw [rows_allS hs hh, List.length_take]
        omega
      obtain ⟨xs, ra5, rr⟩ := ra
      generalize hh : allS (ns.take i) = hss at rr len rows
      dsimp only [gName]
      refine ⟨_, rfl, f, rfl, ⟨_, SqL.of ra5⟩, fun D hD => ?_⟩
      refine lc2_it (walk_list (xs := xs)) (fun j H => Ex H4 H ∧ RowsAt H D (crossS (hss.take j) n)) ⟨exn hD, _, upd_same, .nil⟩ (fun j H _ q => SqL.of (q.1 _ _ ra5)) ?_ ?_
      · rintro j x _ H5 hj ⟨e5, rb⟩ ⟨rfl, hx⟩
        obtain ⟨hs, r, hhs, rfl, hr4⟩ := rr.get hx
        refine ⟨rfl, ?_⟩
        refine ⟨_, rfl, n, rfl, by omega, by omega, ?_⟩
        refine in_it walk_range (fun l H => Ex H4 H ∧ RowsAt H D (crossS (hss.take j) n ++ (List.range l).map fun (i : Nat) => hs ++ [(i : Int)])) ⟨e5, ?_⟩ (fun l H _ q => True.intro) ?_ ?_
        · rw [List.range_zero, List.map_nil, List.append_nil]
          exact rb
        · rintro l x _ H7 hl ⟨e7, rc⟩ ⟨rfl, hx⟩
          obtain rfl : x = .int (l : Int) := hx.trans (congrArg V.int (Int.zero_add _))
          refine ⟨rfl, ?_⟩
          refine ⟨_, rfl, _, rfl, by show 1 ≤ sizeLine; decide, fun u hu => ?_⟩
          refine cat_row (exn hu _ _ (e7 _ _ hr4)) upd_same (Nat.le_trans (rows hs (List.mem_of_getElem? hhs)) (by decide)) fun v H8 e8 hv => ?_
          have e8' : Ex H7 H8 := ext (exn hu) e8
          obtain ⟨acc, g1, g2, g3⟩ := rows_push (rc.mono e8') hv
          refine ⟨acc, g1, ?_, ex_upd (ext e7 e8') hD, ?_⟩
          · rw [g2, List.length_append, crossS_len, List.length_map, List.length_range, List.length_take]
            have hl2 : l < n.toNat := hl
            have : min j hss.length * n.toNat ≤ 300 * 300 := Nat.mul_le_mul (by omega) (by omega)
            exact Nat.lt_of_le_of_lt (show _ ≤ 90300 by omega) (by decide)
          · rw [List.range_succ, List.map_append, ← List.append_assoc]
            exact g3
        · rintro Hz ⟨ez, rz⟩
          refine ⟨ez, ?_⟩
          rw [take_more hhs, crossS_snoc]
          exact rz
      · rintro Hz ⟨ez, rz⟩
        rw [List.take_of_length_le (by have := Paired.length rr; omega)] at rz
        refine ⟨D, _, _, _, rfl, ext e4 ez, Evl.fresh_back e4 hD, ?_⟩
        rw [ezs, allS_snoc, hh]
        exact rz
    · rintro σ H2 ⟨f, y1, y2, y3, rfl, e, f0, ra⟩
      rw [List.take_of_length_le (by simp)] at ra
      exact ⟨_, rfl, k f H2 e f0 ra⟩
end

section
variable {P : Program} {w : World} {K : PySem.W.Frag} {mg : Str → Option Value} {base : Heap}
def sp_Table_count (C : Addr) : Sp := fun vs H Q _ => ∃ (a : Addr) (ns : List Int), vs = [.ref a] ∧ TabAt C H a ns ∧ SzOk ns ∧ prodL ns ≤ 10 ^ 9 ∧ Q (.int (prodL ns)) H
theorem ok_Table_count (T : TX K mg) : FnOk P w K mg base CX0 1 T.f_Table_count T.fd_Table_count ["self"] (sp_Table_count T.C_Table) := by
  refine T.F_Table_count.ok sc_Table_count (fun vs H Q E h => ?_) (fun cdv A outer s H vs Q E hr h => ?_)
  · obtain ⟨a, ns, rfl, _⟩ := h
    rfl
  · obtain ⟨a, ns, rfl, ⟨dx, t, h1, h2⟩, ok, hB, k⟩ := h
    refine ⟨_, (pss_cons (ps_set (i := 1) sc_Table_count.nd rfl (Or.inl rfl) pe_int) (pss_cons (ps_for PassesOwn.never rfl (pi_tup (pe_fld (pv 0) rfl)) (pg_name (i := 2) sc_Table_count.nd rfl (Or.inl rfl)) (pss_one (ps_set (i := 1) sc_Table_count.nd rfl (Or.inl rfl) (pe_op op_mulI (pv 1) (pv 2))))) (pss_one (ps_ret (pv 1))))), ?_⟩
    refine ⟨_, rfl, a, _, dx, _, _, rfl, h1, T.cl_Table, T.n_Table_rings, rfl, t, rfl, ⟨_, SqT.of h2⟩, ?_⟩
    refine for_it (walk_tup (xs := ns.map V.int)) (fun i σ H2 => ∃ y : Option V, σ = [some (.ref a), some (.int (prodL (ns.take i))), y] ∧ H2 = H) ⟨none, rfl, rfl⟩ (fun i σ H2 _ ⟨_, _, e⟩ => by rw [e]; exact SqT.of h2) ?_ ?_
    · rintro i x σ H2 H3 hi ⟨y, rfl, rfl⟩ ⟨rfl, hx⟩
      obtain ⟨n, hn, rfl⟩ := map_get hx
      have b1 : 1 ≤ prodL (ns.take i) := prodL_pos fun m hm => ok.one m (List.mem_of_mem_take hm)
      have b2 : prodL (ns.take i) ≤ 10 ^ 9 := Int.le_trans (prodL_take i ok.one) hB
      refine ⟨_, rfl, _, rfl, _, _, rfl, rfl, mul_ok (.inl ⟨by omega, by omega⟩), some (.int n), ?_, rfl⟩
      rw [take_more hn, prodS_snoc]
      rfl
    · rintro σ H2 ⟨y, rfl, rfl⟩
      rw [List.length_map, List.take_length]
      exact ⟨_, rfl, k⟩
def sp_require_small (C : Addr) : Sp := fun vs H Q _ => ∃ (a : Addr) (ns : List Int), vs = [.ref a] ∧ TabAt C H a ns ∧ SzOk ns ∧ prodL ns ≤ 300 ∧ Q .non H
theorem ok_require_small (T : TX K mg) : FnOk P w K mg base CX0 2 T.f_require_small T.fd_require_small ["table"] (sp_require_small T.C_Table) := by
  refine T.F_require_small.ok sc_require_small (fun vs H Q E h => ?_) (fun cdv A outer s H vs Q E hr h => ?_)
  · obtain ⟨a, ns, rfl, _⟩ := h
    rfl
  · obtain ⟨a, ns, rfl, tab, ok, hB, k⟩ := h
    obtain ⟨dx, t, h1, h2⟩ := id tab
    refine ⟨_, (pss_one (ps_if (pt_cmpR op_gt (pe_meth0 (pv 0) T.cl_Table T.me_Table_count (ok_Table_count T) hr T.b_Table_count .nil pass0) (pe_glob (v := .int 300) rfl T.c_SMALL ⟨_, rfl⟩) (nomark _)) pss_never pss_nil)), ?_⟩
    refine ⟨_, rfl, a, dx, _, rfl, h1, rfl, a, ns, rfl, tab, ok, Int.le_trans hB (by decide), ?_⟩
    refine ⟨_, _, rfl, rfl, _, rfl, itf (decide_eq_false (by show ¬ (300 : Int) < prodL ns; omega)) k⟩
end

/-! ### comprehensions of new tuples -/
theorem paired_mono {α : Type} {P Q : V → α → Prop} (h : ∀ v a, P v a → Q v a) : ∀ {xs : List V} {as : List α}, Paired P xs as → Paired Q xs as
  | _, _, .nil => .nil
  | _, _, .cons q t => .cons (h _ _ q) (paired_mono h t)
theorem paired_snoc {α : Type} {P : V → α → Prop} {v : V} {a : α} (h : P v a) : ∀ {xs : List V} {as : List α}, Paired P xs as → Paired P (xs ++ [v]) (as ++ [a])
  | _, _, .nil => .cons h .nil
  | _, _, .cons q t => .cons q (paired_snoc h t)
theorem lc_new {α : Type} (Pd : Hp → V → α → Prop) (mono : ∀ (H H2 : Hp) (v : V) (a : α), (∀ c xs, H c = some (.tup xs) → H2 c = some (.tup xs)) → Pd H v a → Pd H2 v a)
    {J : It} {n : Nat} {G : Hp → Prop} {Y : Nat → Hp → V → Hp → Prop} (w : Walk J n G Y) {g : TG} {te : TE} {vs : List Nat} {σ : L2.St} {H1 : Hp} {D : Addr} {Qd : Hp → Prop} (as : List α) (hn : as.length = n) (hl : n ≤ 10000000) (hD : H1 D = none)
    (hG : ∀ H, Ex H1 H → G H)
    (hs : ∀ i x a H H2 (R : VK), as[i]? = some a → Ex H1 H → Y i H x H2 → (∀ v H5, Ex H H5 → Pd H5 v a → R v H5) → g x (wipe σ vs) H2 fun σ2 H3 => wipe σ2 vs = wipe σ vs ∧ te σ2 H3 R)
    (hg : ∀ x σ2 H2 (R R2 : L2.St → Hp → Prop), (∀ σ3 H3, R σ3 H3 → R2 σ3 H3) → g x σ2 H2 R → g x σ2 H2 R2)
    (hd : ∀ H xs, Ex H1 H → H D = some (.lst xs) → Paired (Pd H) xs as → Qd H) :
    ∃ W : Nat → Nat → Hp → Prop, (∃ m, W 0 m (upd H1 D (.lst []))) ∧ ∀ i m H, W i m H →
      (J.stop i H ∧ Qd H) ∨ (J.go i H ∧ ∃ Nx : Hp → Prop, (∀ H2, Nx H2 → ∃ m2, m2 < m ∧ W (i + 1) m2 H2) ∧ ∀ x H2, J.yld i H x H2 → g x (wipe σ vs) H2 fun σ2 H3 => wipe σ2 vs = wipe σ vs ∧ tYes σ2 H3 fun b H4 =>
        if b = true then te σ2 H4 fun y H5 => ∃ acc, H5 D = some (.lst acc) ∧ acc.length < sizeLine ∧ Nx (upd H5 D (.lst (acc ++ [y]))) else Nx H4) := by
  refine lc_it w (fun i H => Ex H1 H ∧ ∃ xs, H D = some (.lst xs) ∧ Paired (Pd H) xs (as.take i)) ⟨exn hD, [], upd_same, .nil⟩ (fun i H _ p => hG H p.1) (fun i x H H2 hi p y => ?_) (fun H p => ?_)
  · obtain ⟨a, ha⟩ : ∃ a, as[i]? = some a := ⟨_, List.getElem?_eq_getElem (by omega)⟩
    refine hg _ _ _ _ _ (fun σ3 H3 q => ⟨q.1, q.2⟩) (hs i x a H H2 (fun y H5 => ∃ acc, H5 D = some (.lst acc) ∧ acc.length < sizeLine ∧ Ex H1 (upd H5 D (.lst (acc ++ [y]))) ∧ ∃ xs, upd H5 D (.lst (acc ++ [y])) D = some (.lst xs) ∧ Paired (Pd (upd H5 D (.lst (acc ++ [y])))) xs (as.take (i + 1))) ha p.1 y fun v H5 e hv => ?_)
    obtain ⟨p1, xs, p2, p3⟩ := p
    have tp : ∀ c zs, H5 c = some (.tup zs) → upd H5 D (.lst (xs ++ [v])) c = some (.tup zs) := fun c zs z => by
      rw [upd_ne (ne_of z (e _ _ p2) (by intro q; cases q))]
      exact z
    refine ⟨xs, e _ _ p2, ?_, ex_upd (ext p1 e) hD, xs ++ [v], upd_same, ?_⟩
    · rw [Paired.length p3, List.length_take]
      exact Nat.lt_of_le_of_lt (Nat.le_trans (Nat.min_le_right _ _) (by rw [hn]; exact hl)) (by decide)
    · rw [take_more ha]
      refine paired_snoc (mono _ _ _ _ tp hv) (paired_mono (fun v a q => mono _ _ _ _ tp (mono _ _ _ _ (fun c zs z => e _ _ z) q)) p3)
  · obtain ⟨p1, xs, p2, p3⟩ := p
    rw [List.take_of_length_le (by omega)] at p3
    exact hd H xs p1 p2 p3
def PdRow (H : Hp) (x : V) (hs : List Int) : Prop := ∃ r, x = V.ref r ∧ H r = some (.tup (hs.map V.int))
theorem pdrow_mono (H H2 : Hp) (v : V) (a : List Int) (e : ∀ c xs, H c = some (.tup xs) → H2 c = some (.tup xs)) (h : PdRow H v a) : PdRow H2 v a := by
  obtain ⟨r, h1, h2⟩ := h
  exact ⟨r, h1, e _ _ h2⟩

-- sorts
/-! ### sorted(xs) of lists of tuples of ints (behind baseS) -/
def encR (a : List (List Int)) : PyData := .list (a.map iT)
def leR (a b : List (List Int)) : Bool := PySem.W.dataLe false encR a b
/-- a row of lists of tuples, of which B says where they may lie -/
def SetR (B : Addr → Prop) (H : Hp) (xs : List V) (ds : List (List (List Int))) : Prop := Paired (fun x d => ∃ a, x = V.ref a ∧ B a ∧ RowsAt H a d) xs ds
def rSortR (K : PySem.W.Frag) : List V → Hp → VK → Prop := fun vs H Q => ∃ (B : Addr → Prop) (q : Addr) (xs : List V) (ds : List (List (List Int))), vs = [V.ref q] ∧ H q = some (.lst xs) ∧ SetR B H xs ds ∧
  ∀ (ys : List V) (p : Addr), SetR B H ys (ds.mergeSort leR) → H p = none → Q (.ref p) (upd H p (.lst ys))
def VdR (B : Addr → Prop) (H : Hp) (u : Value) (d : List (List Int)) : Prop := ∃ t, u = Value.ref t ∧ B t ∧ RowsAt H t d
open PySem.W in
theorem each_setR {B : Addr → Prop} {H : Hp} : ∀ {xs : List V} {ds : List (List (List Int))} {us : List Value}, SetR B H xs ds → Vals xs us → EachIs (VdR B H) us ds
  | _, _, _, .nil, .nil => .nil
  | _, _, _, .cons ⟨t, e, b, h⟩ tl, .cons rv tv => by
    subst e
    cases rv
    exact .cons ⟨t, rfl, b, h⟩ (each_setR tl tv)
open PySem.W in
theorem setR_each {B : Addr → Prop} {H : Hp} : ∀ {us : List Value} {ds : List (List (List Int))}, EachIs (VdR B H) us ds → ∃ ys, SetR B H ys ds ∧ Vals ys us
  | _, _, .nil => ⟨[], .nil, .nil⟩
  | _, _, .cons ⟨t, e, b, h⟩ tl => by
    subst e
    obtain ⟨ys, g1, g2⟩ := setR_each tl
    exact ⟨.ref t :: ys, .cons ⟨t, rfl, b, h⟩ g1, .cons rfl g2⟩
theorem dp_rowsR {K : PySem.W.Frag} {H : Hp} : ∀ {xs : List V} {tss : List (List Int)}, RowsR H xs tss → DpAll K H xs (tss.map iT)
  | _, _, .nil => .nil
  | _, _, .cons ⟨r, e, h⟩ t => by
    subst e
    exact .cons (dp_ints h) (dp_rowsR t)
theorem dp_rowsAt {K : PySem.W.Frag} {H : Hp} {a : Addr} {tss : List (List Int)} (h : RowsAt H a tss) : Dp K H (.ref a) (encR tss) := by
  obtain ⟨xs, h1, h2⟩ := h
  exact .lst (SqL.of h1) (dp_rowsR h2)
theorem dp_setR {B : Addr → Prop} {K : PySem.W.Frag} {H : Hp} : ∀ {xs : List V} {ds : List (List (List Int))}, SetR B H xs ds → DpAll K H xs (ds.map encR)
  | _, _, .nil => .nil
  | _, _, .cons ⟨a, e, _, h⟩ t => by
    subst e
    exact .cons (dp_rowsAt h) (dp_setR t)
open PySem.W in
theorem each_dpR {B : Addr → Prop} {X : Cx} {pins : List (Addr × Obj)} {σ : L2.St} {H : Hp} {s : Shared} (I : Inv X pins σ H s) : ∀ {us : List Value} {ds : List (List (List Int))}, EachIs (VdR B H) us ds → EachIs (fun v b => ∃ as, Reads s.heap v (encR b) as) us ds
  | _, _, .nil => .nil
  | _, _, .cons ⟨t, e, _, h⟩ tl => by
    subst e
    exact .cons (Dp.reads I _ (.ref t) _ (dp_rowsAt h) rfl) (each_dpR I tl)
theorem alike_rows : ∀ a b : List (List Int), PySem.W.alikeAll (a.map iT) (b.map iT) = true
  | [], _ => by simp [PySem.W.alikeAll]
  | _ :: _, [] => by simp [PySem.W.alikeAll]
  | x :: xs, y :: ys => by
    show PySem.W.alikeAll (iT x :: xs.map iT) (iT y :: ys.map iT) = true
    rw [PySem.W.alikeAll, alike_rows xs ys, alike_iT]
    rfl
theorem alike_encR (a b : List (List Int)) : PySem.W.alike (encR a) (encR b) = true := by
  show PySem.W.alike (.list (a.map iT)) (.list (b.map iT)) = true
  rw [PySem.W.alike]
  exact alike_rows a b
theorem depth_rows : ∀ a : List (List Int), PyData.depthAll (a.map iT) ≤ 1
  | [] => by simp [PyData.depthAll]
  | x :: xs => by
    have e := PySem.W.depth_ints x
    have h := depth_rows xs
    show PyData.depthAll (.tuple (x.map .int) :: xs.map iT) ≤ 1
    simp only [PyData.depthAll, PyData.depth, e]
    omega
theorem depth_encR (a : List (List Int)) : (encR a).depth ≤ 2 := by
  have h := depth_rows a
  show PyData.depth (.list (a.map iT)) ≤ 2
  simp only [PyData.depth]
  omega
theorem cr_sortR {X : Cx} (hu : X.A.units + 65 < cLine) : CallR X (.builtin "sorted") (rSortR X.K) := by
  intro pins s σ H vs us Q I r h
  obtain ⟨B, a, xs, ds, rfl, hs, rr, q⟩ := h
  rw [Vals.ref1 r]
  have hk : PySem.W.Sortable (ds.map encR) := .inr fun d hd => by
    obtain ⟨ts, ht, rfl⟩ := List.mem_map.mp hd
    exact ⟨fun z => (nomatch z), fun _ z => (nomatch z)⟩
  have hU : ∀ ts, ts ∈ ds → X.A.units + 2 + (encR ts).depth < cLine := fun ts _ => by
    have := depth_encR ts
    omega
  have fin : ∀ its : List Value, Vals xs its → xs.length ≤ sizeLine → ∀ out, out.length = ds.length → PySem.W.EachIs (VdR B H) out (ds.mergeSort (PySem.W.dataLe false encR)) → EP X pins σ Q (.ref (s.heap.objs.size + 1)) { s with heap := sortedAll s.heap its (List.toArray out) } := by
    intro its rv hz out lo eo
    obtain ⟨ys, h1, h2⟩ := setR_each eo
    obtain ⟨ep, he'⟩ := PyProof.Rows.sortedAll_at s.heap its (List.toArray out)
    have hlen : ys.length ≤ sizeLine := by
      rw [h2.length, lo, ← Paired.length rr]
      exact hz
    exact ⟨.ref _, upd H (s.heap.objs.size + 1) (.lst ys), I.laid (t' := s.toks) (fun _ _ => PyProof.Rows.sortedAll_old) (Nat.le_succ _) ⟨hlen, out, ep, h2, he'⟩, rfl, q ys _ h1 (I.hok.fresh (Nat.le_succ _))⟩
  have hal : PySem.W.AllAlike (ds.map encR) := PySem.W.AllAlike.of alike_encR
  obtain ⟨its, rv, hl, hz⟩ := I.list (SqL.of hs)
  have e := each_setR rr rv
  exact PySem.W.sorted_data (enc := encR) hl.isList e (each_dpR I e) hal hk (by rw [← Paired.length rr]; exact hz) hU (fin its rv hz)

theorem mul_le_prod {ns : List Int} (h : ∀ n ∈ ns, 1 ≤ n) {i : Nat} {n : Int} (hn : ns[i]? = some n) : n ≤ prodL ns := by
  have o1 : ∀ m ∈ ns.take i, 1 ≤ m := fun m hm => h m (List.mem_of_mem_take hm)
  have a1 : prodL (ns.take (i + 1)) ≤ prodL ns := prodL_take (i + 1) h
  have n1 := h n (List.mem_of_getElem? hn)
  rw [take_more hn, prodS_snoc] at a1
  have a2 := prodL_pos o1
  have a3 : 1 * n ≤ prodL (ns.take i) * n := Int.mul_le_mul_of_nonneg_right a2 (by omega)
  omega

theorem mul_le_of_mem {ns : List Int} (h : ∀ n ∈ ns, 1 ≤ n) {n : Int} (hn : n ∈ ns) : n ≤ prodL ns := by
  obtain ⟨i, hi⟩ := List.mem_iff_getElem?.mp hn
  exact mul_le_prod h hi

/-! ### the largest sets that can be avoided -/
theorem CT.nodup_maps {α β : Type} {f : α → β} {l : List α} (hf : ∀ a ∈ l, ∀ b ∈ l, f a = f b → a = b) (h : l.Nodup) : (l.map f).Nodup := by
  induction l with
  | nil => simp
  | cons x l ih =>
    rw [List.nodup_cons] at h
    rw [List.map_cons, List.nodup_cons]
    refine ⟨fun hm => ?_, ih (fun a ha b hb => hf a (List.mem_cons_of_mem _ ha) b (List.mem_cons_of_mem _ hb)) h.2⟩
    obtain ⟨y, hy, e⟩ := List.mem_map.mp hm
    exact h.1 (hf y (List.mem_cons_of_mem _ hy) x List.mem_cons_self e ▸ hy)
def oddsD (n : Int) : List Int := ((List.range ((n - 1) / 2).toNat).map fun (i : Nat) => 3 + (i : Int) * 2).filter fun d => decide (n % d = 0)
def oddP (n : Int) : Option Int := (oddsD n).head?
theorem mem_odds {n d : Int} : d ∈ oddsD n ↔ 3 ≤ d ∧ d % 2 = 1 ∧ d ≤ n ∧ n % d = 0 := by
  unfold oddsD
  simp only [List.mem_filter, List.mem_map, List.mem_range, decide_eq_true_eq]
  constructor
  · rintro ⟨⟨i, hi, rfl⟩, hd⟩
    exact ⟨by omega, by omega, by omega, hd⟩
  · rintro ⟨h1, h2, h3, h4⟩
    exact ⟨⟨((d - 3) / 2).toNat, by omega, by omega⟩, h4⟩
theorem odds_sorted (n : Int) : (oddsD n).Pairwise (· < ·) := by
  unfold oddsD
  refine List.Pairwise.filter _ ?_
  rw [List.pairwise_map]
  refine List.pairwise_lt_range.imp fun {a b} h => ?_
  omega
structure LeastOdd (n p : Int) : Prop where
  three : 3 ≤ p
  odd : p % 2 = 1
  le : p ≤ n
  dvd : p ∣ n
  least : ∀ d, 3 ≤ d → d % 2 = 1 → d ∣ n → p ≤ d
theorem oddP_some {n p : Int} (n1 : 1 ≤ n) (h : oddP n = some p) : LeastOdd n p := by
  unfold oddP at h
  have hs := odds_sorted n
  cases e : oddsD n with
  | nil =>
    rw [e] at h
    cases h
  | cons q l =>
    rw [e] at h hs
    obtain rfl : q = p := by simpa using h
    have hm : q ∈ oddsD n := by rw [e]; exact List.mem_cons_self
    obtain ⟨a, b, c, d⟩ := mem_odds.mp hm
    refine ⟨a, b, c, Int.dvd_of_emod_eq_zero d, fun d' h1 h2 h3 => ?_⟩
    have : d' ∈ q :: l := by
      rw [← e]
      exact mem_odds.mpr ⟨h1, h2, Int.le_of_dvd (by omega) h3, Int.emod_eq_zero_of_dvd h3⟩
    rcases List.mem_cons.mp this with rfl | hl
    · exact Int.le_refl _
    · exact Int.le_of_lt ((List.pairwise_cons.mp hs).1 _ hl)
theorem oddP_none {n : Int} (n1 : 1 ≤ n) (h : oddP n = none) : ∀ d, 3 ≤ d → d % 2 = 1 → ¬ d ∣ n := fun d h1 h2 h3 => by
  have hm : d ∈ oddsD n := mem_odds.mpr ⟨h1, h2, Int.le_of_dvd (by omega) h3, Int.emod_eq_zero_of_dvd h3⟩
  unfold oddP at h
  cases e : oddsD n with
  | nil =>
    rw [e] at hm
    cases hm
  | cons q l =>
    rw [e] at h
    cases h
def chL (p : Int) (ns : List Int) : List Int := ns.map fun n => if n % p = 0 then p else 1
def leadB (ws : List Int) : Bool := decide ((ws.filter fun w => decide (w ≠ 0)).take 1 = [1])
def leadsL (ns : List Int) (p : Int) : List (List Int) := (allS (chL p ns)).filter leadB
def clsL (ns : List Int) (p : Int) (ws : List Int) (r : Int) : List (List Int) := (allS ns).filter fun x => decide (wsum ws x % p = r)
def avR (ns s : List Int) (p : Int) (ws : List Int) (k : Nat) : List (List (List Int)) := ((List.range k).filter fun (r : Nat) => decide ((r : Int) ≠ wsum ws s % p)).map fun (r : Nat) => clsL ns p ws (r : Int)
def avsL (ns s : List Int) (p : Int) : List (List (List Int)) := (leadsL ns p).flatMap fun ws => avR ns s p ws p.toNat
def avL (ns s : List Int) : List (List (List Int)) := match oddP (prodL ns) with
  | none => []
  | some p => avsL ns s p
theorem mem_lead : ∀ {ws : List Int}, leadB ws = true → ∃ (j : Nat), j < ws.length ∧ ws[j]? = some 1
  | [], h => by simp [leadB] at h
  | w :: ws, h => by
    by_cases c : w = 0
    · subst c
      have : leadB ws = true := by
        unfold leadB at h ⊢
        rw [List.filter_cons_of_neg (by simp)] at h
        exact h
      obtain ⟨j, h1, h2⟩ := mem_lead this
      exact ⟨j + 1, by simp; exact h1, by simpa using h2⟩
    · unfold leadB at h
      rw [List.filter_cons_of_pos (by simpa using c)] at h
      simp at h
      exact ⟨0, by simp, by simp [h]⟩
theorem seat_ch {p : Int} (p0 : 0 < p) : ∀ {ns ws : List Int}, SeatOk (chL p ns) ws → ws.length = ns.length ∧ (∀ x ∈ ws, 0 ≤ x ∧ x < p) ∧ ∀ (i : Nat) (x n : Int), ws[i]? = some x → ns[i]? = some n → x * n % p = 0
  | [], [], _ => ⟨rfl, fun x h => (nomatch h), fun i x n h => (by simp at h)⟩
  | [], _ :: _, h => (h : False).elim
  | _ :: _, [], h => (h : False).elim
  | n :: ns, w :: ws, h => by
    obtain ⟨h1, h2⟩ : (0 ≤ w ∧ w < if n % p = 0 then p else 1) ∧ SeatOk (chL p ns) ws := h
    obtain ⟨a, b, c⟩ := seat_ch p0 h2
    refine ⟨by simp [a], fun x hx => ?_, fun i x m hx hm => ?_⟩
    · rcases List.mem_cons.mp hx with rfl | hx
      · refine ⟨h1.1, ?_⟩
        have := h1.2
        split at this <;> omega
      · exact b x hx
    · cases i with
      | zero =>
        simp only [List.getElem?_cons_zero, Option.some.injEq] at hx hm
        subst hx hm
        have := h1.2
        split at this
        · rename_i cc
          exact Int.emod_eq_zero_of_dvd (Int.dvd_trans (Int.dvd_of_emod_eq_zero cc) (Int.dvd_mul_left _ _))
        · have : w = 0 := by omega
          rw [this, Int.zero_mul]
          rfl
      | succ i => exact c i x m (by simpa using hx) (by simpa using hm)
theorem lead_wit {ns ws : List Int} {p r : Int} (h3 : 3 ≤ p) (ho : p % 2 = 1) (r0 : 0 ≤ r) (r1 : r < p) (h : ws ∈ leadsL ns p) : WitOk ns p ws r ∧ ∃ j, j < ns.length ∧ ws[j]? = some 1 := by
  obtain ⟨h1, h2⟩ := List.mem_filter.mp h
  obtain ⟨a, b, c⟩ := seat_ch (by omega) (mem_allS.mp h1)
  obtain ⟨j, j1, j2⟩ := mem_lead h2
  exact ⟨⟨h3, ho, r0, r1, a, b, c⟩, j, by omega, j2⟩
theorem cls_large {ns ws : List Int} {p r : Int} (one : ∀ n ∈ ns, 1 ≤ n) (wok : WitOk ns p ws r) {j : Nat} (hj : j < ns.length) (hw : ws[j]? = some 1) : prodL ns ≤ ((clsL ns p ws r).length : Int) * p := by
  have p0 : 0 < p := by have := wok.m3; omega
  let f : List Int → List Int × Int := fun x => (shiftL ns x (unitL ns.length j (r - wsum ws x % p)) 1, wsum ws x % p)
  have lu : ∀ t, (unitL ns.length j t).length = ns.length := fun t => by unfold unitL; simp
  have inj : ∀ a ∈ allS ns, ∀ b ∈ allS ns, f a = f b → a = b := fun a ha b hb e => by
    obtain ⟨e1, e2⟩ := Prod.mk.inj e
    rw [e2] at e1
    have := congrArg (fun z => shiftL ns z (unitL ns.length j (r - wsum ws b % p)) (-1)) e1
    rw [shift_back (mem_allS.mp ha) (lu _), shift_back (mem_allS.mp hb) (lu _)] at this
    exact this
  have nod := CT.nodup_maps inj (allS_nodup ns)
  have sub := nod.length_le_of_subset (l₂ := (clsL ns p ws r).flatMap fun q => (List.range p.toNat).map fun (i : Nat) => (q, (i : Int))) fun z hz => by
    obtain ⟨x, hx, rfl⟩ := List.mem_map.mp hz
    have sx := mem_allS.mp hx
    refine List.mem_flatMap.mpr ⟨shiftL ns x (unitL ns.length j (r - wsum ws x % p)) 1, ?_, List.mem_map.mpr ⟨(wsum ws x % p).toNat, ?_, ?_⟩⟩
    · refine List.mem_filter.mpr ⟨mem_allS.mpr (shift_seat one sx.len (lu _)), decide_eq_true ?_⟩
      have h := wsum_shiftL (f := 1) wok.len sx.len (lu (r - wsum ws x % p)) wok.fit
      rw [wsum_unit wok.len hj hw, Int.one_mul, Int.one_mul] at h
      have e : wsum ws x + (r - wsum ws x % p) = r + p * (wsum ws x / p) := by
        have := Int.mul_ediv_add_emod (wsum ws x) p
        omega
      rw [e] at h
      rw [Int.emod_eq_emod_iff_emod_sub_eq_zero.mpr (Int.emod_eq_zero_of_dvd h), Int.add_mul_emod_self_left, Int.emod_eq_of_lt wok.r0 wok.r1]
    · have := Int.emod_nonneg (wsum ws x) (show p ≠ 0 by omega)
      have := Int.emod_lt_of_pos (wsum ws x) p0
      exact List.mem_range.mpr (by omega)
    · rw [Int.toNat_of_nonneg (Int.emod_nonneg _ (by omega))]
  rw [List.length_map] at sub
  have l2 : ((clsL ns p ws r).flatMap fun q => (List.range p.toNat).map fun (i : Nat) => (q, (i : Int))).length = (clsL ns p ws r).length * p.toNat := by
    rw [List.length_flatMap]
    generalize clsL ns p ws r = l
    induction l with
    | nil => simp
    | cons a l ih =>
      rw [List.map_cons, List.sum_cons, ih, List.length_map, List.length_range, List.length_cons, Nat.succ_mul]
      omega
  rw [l2] at sub
  rw [← allS_len one]
  have : (((clsL ns p ws r).length * p.toNat : Nat) : Int) = ((clsL ns p ws r).length : Int) * p := by
    rw [Int.natCast_mul, Int.toNat_of_nonneg (by omega)]
  rw [← this]
  exact Int.ofNat_le.mpr sub

def optI : Option Int → V
  | some d => .int d
  | none => .non
theorem head_opt (l : List Int) : (l.map V.int ++ [V.non])[0]? = some (optI l.head?) := by cases l <;> rfl
def chP (p n : Int) : Int := if n % p = 0 then p else 1
theorem chP_le {p n : Int} (p1 : 1 ≤ p) (n1 : 1 ≤ n) : 1 ≤ chP p n ∧ chP p n ≤ n := by
  unfold chP
  split
  · rename_i c
    exact ⟨p1, Int.le_of_dvd (by omega) (Int.dvd_of_emod_eq_zero c)⟩
  · exact ⟨by decide, n1⟩
theorem chL_one {p : Int} {ns : List Int} (p1 : 1 ≤ p) (one : ∀ n ∈ ns, 1 ≤ n) : ∀ m ∈ chL p ns, 1 ≤ m := fun m hm => by
  obtain ⟨n, hn, rfl⟩ := List.mem_map.mp hm
  exact (chP_le p1 (one n hn)).1
theorem chL_prod {p : Int} (p1 : 1 ≤ p) : ∀ {ns : List Int}, (∀ n ∈ ns, 1 ≤ n) → prodL (chL p ns) ≤ prodL ns
  | [], _ => Int.le_refl _
  | n :: ns, h => by
    show prodL (chP p n :: chL p ns) ≤ _
    rw [prodL_cons, prodL_cons]
    obtain ⟨a, b⟩ := chP_le p1 (h n List.mem_cons_self)
    have ih := chL_prod p1 (ns := ns) fun m hm => h m (List.mem_cons_of_mem _ hm)
    have := prodL_pos (chL_one p1 fun m hm => h m (List.mem_cons_of_mem _ hm) : ∀ m ∈ chL p ns, 1 ≤ m)
    exact Int.le_trans (Int.mul_le_mul_of_nonneg_left ih (by omega)) (Int.mul_le_mul_of_nonneg_right b (by omega))
theorem rgV_get {m : Int} {l : Nat} {x : V} (h : (rgV 0 m)[l]? = some x) : x = .int (l : Int) ∧ l < m.toNat := by
  unfold rgV at h
  rw [List.getElem?_map] at h
  obtain ⟨i, hi, rfl⟩ := Option.map_eq_some_iff.mp h
  obtain ⟨a, b⟩ := List.getElem?_eq_some_iff.mp hi
  rw [List.getElem_range] at b
  subst b
  rw [List.length_range] at a
  exact ⟨by rw [Int.zero_add], by omega⟩
theorem ch_read {σ : L2.St} {H : Hp} {i : Nat} {p n : Int} {Kc : VK} {d : Bool} (hd : d = decide (n % p = 0)) (hσ : σ[i]? = some (some (.int p))) (k : Kc (.int (chP p n)) H) : if d = true then tVar i σ H Kc else tC (.int 1) σ H Kc := by
  subst hd
  unfold chP at k
  by_cases c : n % p = 0
  · rw [decide_eq_true c, if_pos rfl]
    rw [if_pos c] at k
    exact ⟨_, hσ, k⟩
  · rw [decide_eq_false c, if_neg (by decide)]
    rw [if_neg c] at k
    exact k
theorem cut_one (l : List Int) : cutV (l.map V.int) none (some 1) = (l.take 1).map V.int := by
  rw [List.map_take]
  exact cut_to _ 1
theorem rgc_odd {n : Int} (n0 : 0 ≤ n) (h : n ≤ 300) : RgC 3 (n + 1) 2 ((n - 1) / 2).toNat := by
  have key : ∀ m : Fin 301, (Builtin.Range.small 3 ((m.val : Int) + 1) 2 && decide (Builtin.Range.rangeSize 3 ((m.val : Int) + 1) 2 = ((((m.val : Int) - 1) / 2).toNat : Int))) = true := by decide +kernel
  obtain ⟨k, rfl⟩ := Int.eq_ofNat_of_zero_le n0
  have q := key ⟨k, by omega⟩
  rw [Bool.and_eq_true, decide_eq_true_eq] at q
  exact ⟨by decide, by decide, q.1, q.2⟩
theorem tup_xbl {s q : Addr} {H H2 : Hp} {xs ys : List V} (hl : H s = some (.lst ys)) (h : H q = some (.tup xs)) (xb : XB s H H2) : H2 q = some (.tup xs) :=
  xb _ _ (ne_of h hl (by intro z; cases z)) h
theorem rows_xbl {s c : Addr} {H H2 : Hp} {d : List (List Int)} {ys : List V} (hl : H s = some (.lst ys)) (n : c ≠ s) (xb : XB s H H2) (h : RowsAt H c d) : RowsAt H2 c d := by
  obtain ⟨xs, h1, h2⟩ := h
  exact ⟨xs, xb _ _ n h1, h2.monoT fun _ _ z => tup_xbl hl z xb⟩
theorem ex_of_xb {f : Addr} {H H4 Hx : Hp} (f0 : H f = none) (e : Ex H H4) (xb : XB f H4 Hx) : Ex H Hx := fun c o h => xb c o (fun z => by
  rw [z, f0] at h
  cases h) (e c o h)
theorem SetR.monoE {B : Addr → Prop} {H H2 : Hp} {xs : List V} {ds : List (List (List Int))} (e : Ex H H2) (h : SetR B H xs ds) : SetR B H2 xs ds :=
  paired_mono (fun _ _ ⟨c, e1, n, h⟩ => ⟨c, e1, n, h.mono e⟩) h
theorem seat_lt : ∀ {ns q : List Int}, (∀ n ∈ ns, n ≤ 300) → SeatOk ns q → ∀ x ∈ q, 0 ≤ x ∧ x < 300
  | [], [], _, _ => fun x h => (nomatch h)
  | [], _ :: _, _, h => (h : False).elim
  | _ :: _, [], _, h => (h : False).elim
  | n :: ns, y :: q, b, h => fun x hx => by
    obtain ⟨h1, h2⟩ : (0 ≤ y ∧ y < n) ∧ SeatOk ns q := h
    rcases List.mem_cons.mp hx with rfl | hx
    · have := b n List.mem_cons_self
      omega
    · exact seat_lt (fun m hm => b m (List.mem_cons_of_mem _ hm)) h2 x hx
theorem avR_snoc (ns s : List Int) (p : Int) (ws : List Int) (j : Nat) : avR ns s p ws (j + 1) = avR ns s p ws j ++ if (j : Int) = wsum ws s % p then [] else [clsL ns p ws (j : Int)] := by
  unfold avR
  rw [List.range_succ, List.filter_append, List.map_append]
  by_cases c : (j : Int) = wsum ws s % p <;> simp [c]
theorem avR_len (ns s : List Int) (p : Int) (ws : List Int) (j : Nat) : (avR ns s p ws j).length ≤ j := by
  unfold avR
  rw [List.length_map]
  exact Nat.le_trans (List.length_filter_le _ _) (by rw [List.length_range]; exact Nat.le_refl _)
theorem flat_len {α β : Type} {f : α → List β} {c : Nat} : ∀ {l : List α}, (∀ a ∈ l, (f a).length ≤ c) → (l.flatMap f).length ≤ l.length * c
  | [], _ => by simp
  | a :: l, h => by
    rw [List.flatMap_cons, List.length_append, List.length_cons, Nat.succ_mul]
    have h1 := h a List.mem_cons_self
    have h2 := flat_len (l := l) fun b hb => h b (List.mem_cons_of_mem _ hb)
    omega
theorem leads_len {ns : List Int} {p : Int} (p1 : 1 ≤ p) (one : ∀ n ∈ ns, 1 ≤ n) : ((leadsL ns p).length : Int) ≤ prodL ns := by
  have h1 := allS_len (chL_one p1 one)
  have h2 := chL_prod p1 one
  have h3 : (leadsL ns p).length ≤ (allS (chL p ns)).length := List.length_filter_le _ _
  omega
theorem av_len {ns s ws : List Int} {p : Int} (one : ∀ n ∈ ns, 1 ≤ n) (pr : prodL ns ≤ 300) (p3 : 3 ≤ p) (p300 : p ≤ 300) (hw : ws ∈ leadsL ns p) (i j : Nat) (hj : j ≤ 300) : (((leadsL ns p).take i |>.flatMap fun ws => avR ns s p ws p.toNat) ++ avR ns s p ws j).length ≤ 100000 := by
  rw [List.length_append]
  have h1 := flat_len (c := p.toNat) (l := (leadsL ns p).take i) (f := fun ws => avR ns s p ws p.toNat) fun a _ => avR_len ns s p a _
  have h2 := avR_len ns s p ws j
  have h3 := leads_len (p := p) (by omega) one
  have h4 : ((leadsL ns p).take i).length ≤ 300 := by
    rw [List.length_take]
    omega
  have h5 : ((leadsL ns p).take i).length * p.toNat ≤ 300 * 300 := Nat.mul_le_mul h4 (by omega)
  omega
theorem tab_xbl {C s a : Addr} {H H2 : Hp} {ns : List Int} {ys : List V} (hl : H s = some (.lst ys)) (h : TabAt C H a ns) (xb : XB s H H2) : TabAt C H2 a ns := by
  obtain ⟨dx, t, h1, h2⟩ := h
  exact ⟨dx, t, xb _ _ (ne_of h1 hl (by intro z; cases z)) h1, tup_xbl hl h2 xb⟩
section
variable {P : Program} {w : World} {K : PySem.W.Frag} {mg : Str → Option Value} {base : Heap}
def sp_least_odd_prime : Sp := fun vs H Q _ => ∃ (n : Int), vs = [.int n] ∧ 1 ≤ n ∧ n ≤ 300 ∧ ∀ H2, Ex H H2 → Q (optI (oddP n)) H2
theorem ok_least_odd_prime (T : TX K mg) : FnOk P w K mg base CX0 1 T.f_least_odd_prime T.fd_least_odd_prime ["number"] sp_least_odd_prime := by
  refine T.F_least_odd_prime.ok sc_least_odd_prime (fun vs H Q E h => ?_) (fun cdv A outer s H vs Q E hr h => ?_)
  · obtain ⟨n, rfl, _⟩ := h
    rfl
  · obtain ⟨n, rfl, n1, n2, k⟩ := h
    refine ⟨_, (pss_one (ps_ret (pe_ix ix_list (pe_op (r := rCatR K) op_catR (pe_lc (own := [("prime", 1)]) (g := (gName 1)) rfl sc_least_odd_prime.nd (pi_range3 rfl T.z_range (pa_cons pe_int (pa_cons (pe_op op_add (pv 0) pe_int) (pa_cons pe_int pa_nil)))) (blkOk_by (N := N_least_odd_prime) (sc := defScope s_least_odd_prime) (by decide +kernel)) (fun _ _ _ _ _ => (pg_name (i := 1) sc_least_odd_prime.nd rfl (Or.inl rfl))) (fun _ _ _ _ _ => (pts_one (pt_cmpR op_eq (pe_op op_mod (pv 0) (pv 1)) pe_int (nomark _)))) (fun _ _ _ _ _ => (pv 1))) (pe_lst (pa_cons pe_non pa_nil))) pe_int (fun _ _ => rfl)))), ?_⟩
    refine ⟨_, rfl, _, _, rfl, rfl, 3, n + 1, 2, _, rfl, rgc_odd (by omega) n2, fun D hD => ?_⟩
    refine lc_filt walk_rangeC ((List.range ((n - 1) / 2).toNat).map fun (i : Nat) => 3 + (i : Int) * 2) (fun d => decide (n % d = 0)) V.int (by simp) (by omega) hD (fun _ _ => True.intro) ?_ ?_
    · rintro i x a _ Hx R S ha ex ⟨rfl, hx⟩ kR kS
      rw [List.getElem?_map] at ha
      obtain ⟨i', hi', rfl⟩ := Option.map_eq_some_iff.mp ha
      obtain ⟨_, e⟩ := List.getElem?_eq_some_iff.mp hi'
      rw [List.getElem_range] at e
      subst e hx
      refine ⟨rfl, ?_⟩
      (repeat (first | refine ⟨rfl, ?_⟩ | refine ⟨_, rfl, ?_⟩ | refine ⟨_, _, rfl, rfl, ?_⟩ | refine ⟨_, _, rfl, ?_⟩ | refine ⟨slen rfl, ?_⟩ | refine ⟨⟨by decide, by decide +kernel⟩, ?_⟩ | refine ⟨⟨by decide, by decide, by decide⟩, ?_⟩ | refine ⟨(by show (0 : Int) < _; first | decide | assumption | omega), ?_⟩ | refine ⟨mul_ok (by first | exact .inr (by decide) | exact .inl (by decide)), ?_⟩))
      by_cases c : n % (3 + (i : Int) * 2) = 0
      · exact itt (decide_eq_true (congrArg V.int c)) ⟨_, rfl, kR _ _ exr (decide_eq_true c) rfl⟩
      · exact itf (decide_eq_false fun z => c (V.int.inj z)) (kS _ exr (decide_eq_false c))
    · intro H5 e5 hD5
      refine ⟨by show 1 ≤ sizeLine; decide, fun b hb => ?_⟩
      have eb := exn (o := .lst [V.non]) hb
      refine ⟨D, b, _, _, rfl, rfl, SqL.of (eb _ _ hD5), SqL.of upd_same, ?_, fun c hc => ?_⟩
      · rw [List.length_map]
        refine Nat.le_trans (Nat.add_le_add_right (List.length_filter_le _ _) _) ?_
        rw [List.length_map, List.length_range]
        exact Nat.le_trans (show _ ≤ 200 by simp; omega) (by decide)
      · have ec := exn (o := .lst (((((List.range ((n - 1) / 2).toNat).map fun (i : Nat) => 3 + (i : Int) * 2).filter fun d => decide (n % d = 0)).map V.int) ++ [V.non])) hc
        exact ⟨c, _, _, _, rfl, rfl, SqL.of upd_same, L2.atI_nat (j := 0) (head_opt _), k _ (ext e5 (ext eb ec))⟩
def sp_leading_ones : Sp := fun vs H Q _ => ∃ (a : Addr) (ns : List Int) (p : Int), vs = [.ref a, .int p] ∧ H a = some (.tup (ns.map V.int)) ∧ SzOk ns ∧ prodL ns ≤ 300 ∧ 3 ≤ p ∧ ∀ q H2, Ex H H2 → H q = none → RowsAt H2 q (leadsL ns p) → Q (.ref q) H2
theorem ok_leading_ones (T : TX K mg) : FnOk P w K mg base CX0 1 T.f_leading_ones T.fd_leading_ones ["sizes", "prime"] sp_leading_ones := by
  refine T.F_leading_ones.ok sc_leading_ones (fun vs H Q E h => ?_) (fun cdv A outer s H vs Q E hr h => ?_)
  · obtain ⟨a, ns, p, rfl, _⟩ := h
    rfl
  · obtain ⟨a, ns, p, rfl, ha, ok, pr, p3, k⟩ := h
    have l4 := ok.le
    refine ⟨_, (pss_cons (ps_set (i := 2) sc_leading_ones.nd rfl (Or.inl rfl) (pe_lst (pa_cons (pe_tup pa_nil) pa_nil))) (pss_cons (ps_for PassesOwn.never rfl (pi_tup (pv 0)) (pg_name (i := 3) sc_leading_ones.nd rfl (Or.inl rfl)) (pss_cons (ps_set (i := 4) sc_leading_ones.nd rfl (Or.inr rfl) (pe_listRg rfl (by rfl) T.z_list (prg_1 (by rfl) T.z_range (pe_ifExp (pt_cmpR op_eq (pe_op op_mod (pv 3) (pv 1)) pe_int (nomark _)) (pv 1) pe_int)))) (pss_one (ps_setLc2 (wi1 := iList K _) (own := [("start", 5), ("weight", 6)]) (g := (gName 5)) (g1 := (gName 6)) (vs1 := [6]) (i := 2) rfl sc_leading_ones.nd rfl rfl (sw_true rfl rfl rfl (by decide +kernel)) (pi_list (pv 2)) (blkOk_by (N := N_leading_ones) (sc := defScope s_leading_ones) (by decide +kernel)) (by decide) (fun _ _ _ _ _ => (pg_name (i := 5) sc_leading_ones.nd rfl (Or.inl rfl))) (fun _ _ _ _ _ => pts_nil) (fun _ _ _ _ _ => (pi_list (pv 4))) (fun _ _ _ _ _ => (pg_name (i := 6) sc_leading_ones.nd rfl (Or.inl rfl))) (fun _ _ _ _ _ => pts_nil) (fun _ _ _ _ _ => (pe_op (r := rCatA K) op_catA (pv 5) (pe_tup (pa_cons (pv 6) pa_nil)))))))) (pss_one (ps_ret (pe_lc (own := [("weights", 7)]) (g := (gName 7)) rfl sc_leading_ones.nd (pi_list (pv 2)) (blkOk_by (N := N_leading_ones) (sc := defScope s_leading_ones) (by decide +kernel)) (fun _ _ _ _ _ => (pg_name (i := 7) sc_leading_ones.nd rfl (Or.inl rfl))) (fun _ _ _ _ _ => (pts_one (pt_cmpR (r := rEqD K) (op_eqD hr.units) (pe_slice (r := rSlL K) sl_list (pe_lc (wi := iTup K _) (own := [("weight", 6)]) (g := (gName 6)) rfl sc_leading_ones.nd (pi_tup (pv 7)) (blkOk_by (N := N_leading_ones) rfl) (fun _ _ _ _ _ => (pg_name (i := 6) sc_leading_ones.nd rfl (Or.inl rfl))) (fun _ _ _ _ _ => (pts_one (pt_cmpR op_ne (pv 6) pe_int (nomark _)))) (fun _ _ _ _ _ => (pv 6))) po_none (po_some pe_int)) (pe_lst (pa_cons pe_int pa_nil)) (nomark _)))) (fun _ _ _ _ _ => (pv 7))))))), ?_⟩
    refine ⟨by show 0 ≤ sizeLine; decide, fun u hu => ⟨by show 1 ≤ sizeLine; decide, fun f hf => ?_⟩⟩
    have e2 : Ex H (upd (upd H u (.tup [])) f (.lst [.ref u])) := ext (exn hu) (exn hf)
    have f0 : H f = none := Evl.fresh_back (exn hu) hf
    refine ⟨_, rfl, a, rfl, ⟨_, SqT.of (e2 _ _ ha)⟩, ?_⟩
    have one2 := chL_one (p := p) (by omega) ok.one
    have pr2 : prodL (chL p ns) ≤ 300 := Int.le_trans (chL_prod (by omega) ok.one) pr
    have l4' : (chL p ns).length ≤ 4 := by unfold chL; rw [List.length_map]; exact l4
    refine for_it (walk_tup (xs := ns.map V.int)) (fun i σ H2 => ∃ (f : Addr) (y1 y2 y3 y4 y5 : Option V), σ = [some (.ref a), some (.int p), some (.ref f), y1, y2, y3, y4, y5] ∧ Ex H H2 ∧ H f = none ∧ RowsAt H2 f (allS ((chL p ns).take i))) ⟨_, _, _, _, _, _, rfl, e2, f0, _, upd_same, .cons ⟨u, rfl, by rw [upd_ne (ne_of_none upd_same hf)]; exact upd_same⟩ .nil⟩ (fun i σ H2 _ ⟨_, _, _, _, _, _, _, e, _⟩ => SqT.of (e _ _ ha)) ?_ ?_
    · rintro i x σ _ H4 hi ⟨f, y1, y2, y3, y4, y5, rfl, e4, f0, ra⟩ ⟨rfl, hx⟩
      obtain ⟨n, hn, rfl⟩ := map_get hx
      have n1 := ok.one n (List.mem_of_getElem? hn)
      have hc : (chL p ns)[i]? = some (chP p n) := by
        unfold chL
        rw [List.getElem?_map, hn]
        rfl
      obtain ⟨c1, c2⟩ := chP_le (p := p) (by omega) n1
      have ezs := take_more hc
      have o1 : ∀ m ∈ (chL p ns).take i, 1 ≤ m := fun m hm => one2 m (List.mem_of_mem_take hm)
      have len : ((allS ((chL p ns).take i)).length : Int) ≤ 300 := by
        rw [allS_len o1]
        exact Int.le_trans (prodL_take i one2) pr2
      have nb : chP p n ≤ 300 := by
        have a1 : prodL ((chL p ns).take (i + 1)) ≤ prodL (chL p ns) := prodL_take (i + 1) one2
        rw [ezs, prodS_snoc] at a1
        have a2 := prodL_pos o1
        have a3 : 1 * chP p n ≤ prodL ((chL p ns).take i) * chP p n := Int.mul_le_mul_of_nonneg_right a2 (by omega)
        omega
      have rows : ∀ hs ∈ allS ((chL p ns).take i), hs.length ≤ 4 := fun hs hh => by
        rw [rows_allS hs hh, List.length_take]
        omega
      obtain ⟨xs, ra5, rr⟩ := ra
      generalize hh : allS ((chL p ns).take i) = hss at rr len rows
      dsimp only [gName]
      show tSeq _ _ _ [_, _, _, _, _, _, _, _] _
      refine ⟨_, rfl, _, rfl, _, _, rfl, rfl, by omega, rfl, _, rfl, ?_⟩
      refine ch_read (p := p) (n := n) (i := 1) ?_ ?_ ?_
      · by_cases c : n % p = 0
        · rw [decide_eq_true c]
          exact decide_eq_true (congrArg V.int c)
        · rw [decide_eq_false c]
          exact decide_eq_false fun z => c (V.int.inj z)
      · rfl
      refine ⟨chP p n, rfl, RgOk.of_le (by decide) (by omega) (by decide) (by omega), ?_⟩
      (intro ch nch; generalize hGch : upd _ ch _ = H4a; have eH4a := exG hGch nch; have hch := atG hGch; clear hGch)
      generalize hm : chP p n = m at c1 c2 nb hc ezs hch
      have lg : (rgV 0 m).length = m.toNat := by rw [rgV_length, Int.sub_zero]
      have ra5a := eH4a _ _ ra5
      dsimp only [gName]
      refine ⟨_, rfl, f, rfl, ⟨_, SqL.of ra5a⟩, fun D hD => ?_⟩
      refine lc2_it (walk_list (xs := xs)) (fun j H => Ex H4a H ∧ RowsAt H D (crossS (hss.take j) m)) ⟨exn hD, _, upd_same, .nil⟩ (fun j H _ q => SqL.of (q.1 _ _ ra5a)) ?_ ?_
      · rintro j x _ H5 hj ⟨e5, rb⟩ ⟨rfl, hx⟩
        obtain ⟨hs, r, hhs, rfl, hr4⟩ := rr.get hx
        refine ⟨rfl, ?_⟩
        refine ⟨_, rfl, ch, rfl, ⟨_, SqL.of (e5 _ _ hch)⟩, ?_⟩
        refine in_it (walk_list (xs := rgV 0 m)) (fun l H => Ex H4a H ∧ RowsAt H D (crossS (hss.take j) m ++ (List.range l).map fun (i : Nat) => hs ++ [(i : Int)])) ⟨e5, ?_⟩ (fun l H _ q => SqL.of (q.1 _ _ hch)) ?_ ?_
        · rw [List.range_zero, List.map_nil, List.append_nil]
          exact rb
        · rintro l x _ H7 hl ⟨e7, rc⟩ ⟨rfl, hx⟩
          obtain ⟨rfl, hl2⟩ := rgV_get hx
          refine ⟨rfl, ?_⟩
          refine ⟨_, rfl, _, rfl, by show 1 ≤ sizeLine; decide, fun u hu => ?_⟩
          refine cat_row (exn hu _ _ (e7 _ _ (eH4a _ _ hr4))) upd_same (Nat.le_trans (rows hs (List.mem_of_getElem? hhs)) (by decide)) fun v H8 e8 hv => ?_
          have e8' : Ex H7 H8 := ext (exn hu) e8
          obtain ⟨acc, g1, g2, g3⟩ := rows_push (rc.mono e8') hv
          refine ⟨acc, g1, ?_, ex_upd (ext e7 e8') hD, ?_⟩
          · rw [g2, List.length_append, crossS_len, List.length_map, List.length_range, List.length_take]
            have : min j hss.length * m.toNat ≤ 300 * 300 := Nat.mul_le_mul (by omega) (by omega)
            exact Nat.lt_of_le_of_lt (show _ ≤ 90300 by omega) (by decide)
          · rw [List.range_succ, List.map_append, ← List.append_assoc]
            exact g3
        · rintro Hz ⟨ez, rz⟩
          refine ⟨ez, ?_⟩
          rw [take_more hhs, crossS_snoc, ← lg]
          exact rz
      · rintro Hz ⟨ez, rz⟩
        rw [List.take_of_length_le (by have := Paired.length rr; omega)] at rz
        refine ⟨D, _, _, _, _, _, rfl, ext e4 (ext eH4a ez), Evl.fresh_back (ext e4 eH4a) hD, ?_⟩
        rw [ezs, allS_snoc, hh]
        exact rz
    · rintro σ H2 ⟨f, y1, y2, y3, y4, y5, rfl, e, f0, ra⟩
      rw [List.take_of_length_le (by simp [chL])] at ra
      obtain ⟨xs, hx1, rr⟩ := ra
      dsimp only [gName]
      have lx : xs.length = (allS (chL p ns)).length := Paired.length rr
      have lA := allS_len one2
      refine ⟨_, rfl, f, rfl, ⟨_, SqL.of hx1⟩, fun D hD => ?_⟩
      refine lc_filt (walk_list (xs := xs)) (xs.zip (allS (chL p ns))) (fun z => leadB z.2) (fun z => z.1) (by rw [List.length_zip]; omega) (by omega) hD (fun Hx ex => SqL.of (ex _ _ hx1)) ?_ ?_
      · rintro i x ⟨z1, z2⟩ _ Hx R S hz ex ⟨rfl, hx⟩ kR kS
        obtain ⟨hz1, hz2⟩ := zip_at2 hz
        obtain ⟨ws, r, hw, rfl, hr2⟩ := rr.get hx
        obtain rfl : ws = z2 := Option.some.inj (hw.symm.trans hz2)
        obtain rfl : V.ref r = z1 := Option.some.inj (hx.symm.trans hz1)
        have hr3 := ex _ _ hr2
        refine ⟨rfl, _, rfl, r, rfl, ⟨_, SqT.of hr3⟩, fun Dn hDn => ?_⟩
        refine lc_filt (walk_tup (xs := ws.map V.int)) ws (fun w => decide (w ≠ 0)) V.int (by rw [List.length_map]) (by have := rows_allS ws (List.mem_of_getElem? hw); rw [List.length_map] at *; omega) hDn (fun Hy ey => SqT.of (ey _ _ hr3)) ?_ ?_
        · rintro i x w _ Hy R2 S2 hw2 ey ⟨rfl, hx2⟩ kR2 kS2
          obtain ⟨w', hw', rfl⟩ := map_get hx2
          obtain rfl : w' = w := Option.some.inj (hw'.symm.trans hw2)
          refine ⟨rfl, _, rfl, rfl, _, rfl, ?_⟩
          by_cases c : w' = 0
          · exact itf (by rw [c]; rfl) (kS2 _ exr (by simp [c]))
          · exact itt (by simp [c]) ⟨_, rfl, kR2 _ _ exr (decide_eq_true c) rfl⟩
        · intro Hy ey hDy
          refine ⟨1, rfl, Dn, _, rfl, SqL.of hDy, fun q hq => ?_⟩
          have eq := exn (o := .lst (cutV ((ws.filter fun w => decide (w ≠ 0)).map V.int) none (some 1))) hq
          refine ⟨by show 1 ≤ sizeLine; decide, fun o ho => ?_⟩
          have eo := exn (o := .lst [V.int 1]) ho
          refine ⟨iL ((ws.filter fun w => decide (w ≠ 0)).take 1), iL [1], dp_ilist (eo _ _ ?_), dp_ilist upd_same, (sh_ilist _).ok, (sh_ilist _).ok, _, rfl, ?_⟩
          · rw [upd_same, cut_one]
          rw [eqv_ilist]
          have E5 := ext ey (ext eq eo)
          by_cases c : (ws.filter fun w => decide (w ≠ 0)).take 1 = [1]
          · exact itt (decide_eq_true c) ⟨_, rfl, kR _ _ E5 (decide_eq_true c) rfl⟩
          · exact itf (decide_eq_false c) (kS _ E5 (decide_eq_false c))
      · intro H4 e4 hD4
        exact k D H4 (ext e e4) (Evl.fresh_back e hD) ⟨_, hD4, RowsR.filt leadB (rr.mono e4)⟩
def sp_avoided_sets (C : Addr) : Sp := fun vs H Q _ => ∃ (a s : Addr) (ns p : List Int), vs = [.ref a, .ref s] ∧ TabAt C H a ns ∧ SzOk ns ∧ prodL ns ≤ 300 ∧ H s = some (.tup (p.map V.int)) ∧ SeatOk ns p ∧
  ∀ (f : Addr) (zs : List V) H2, Ex H H2 → H f = none → H2 f = some (.lst zs) → SetR (fun a => H a = none) H2 zs ((avL ns p).mergeSort leR) → Q (.ref f) H2
theorem ok_avoided_sets (T : TX K mg) : FnOk P w K mg base CX0 6 T.f_avoided_sets T.fd_avoided_sets ["table", "seat"] (sp_avoided_sets T.C_Table) := by
  refine T.F_avoided_sets.ok sc_avoided_sets (fun vs H Q E h => ?_) (fun cdv A outer s H vs Q E hr h => ?_)
  · obtain ⟨a, s, ns, p, rfl, _⟩ := h
    rfl
  · obtain ⟨a, s, ns, p, rfl, tab, ok, pr, hs, sk, k⟩ := h
    refine ⟨_, (pss_cons (ps_expr (pe_call (ok_require_table T) hr rfl T.m_require_table T.F_require_table.kp T.b_require_table .nil pass0 (pa_cons (pv 0) pa_nil))) (pss_cons (ps_expr (pe_call (ok_require_seat T) (hr.mono (by decide)) rfl T.m_require_seat T.F_require_seat.kp T.b_require_seat .nil pass0 (pa_cons (pv 0) (pa_cons (pv 1) pa_nil)))) (pss_cons (ps_expr (pe_call (ok_require_small T) (hr.mono (by decide)) rfl T.m_require_small T.F_require_small.kp T.b_require_small .nil pass0 (pa_cons (pv 0) pa_nil))) (pss_cons (ps_set (i := 2) sc_avoided_sets.nd rfl (Or.inr rfl) (pe_call (ok_least_odd_prime T) (hr.mono (by decide)) rfl T.m_least_odd_prime T.F_least_odd_prime.kp T.b_least_odd_prime .nil pass0 (pa_cons (pe_meth0 (pv 0) T.cl_Table T.me_Table_count (ok_Table_count T) (hr.mono (by decide)) T.b_Table_count .nil pass0) pa_nil))) (pss_cons (ps_if (pt_cmpR op_isN (pv 2) pe_non (nomark _)) (pss_one (ps_ret (pe_lst pa_nil))) pss_nil) (pss_cons (ps_set (i := 3) sc_avoided_sets.nd rfl (Or.inl rfl) (pe_lst pa_nil)) (pss_cons (ps_for PassesOwn.never rfl (pi_list (pe_call (ok_leading_ones T) (hr.mono (by decide)) rfl T.m_leading_ones T.F_leading_ones.kp T.b_leading_ones .nil pass0 (pa_cons (pe_meth0 (pv 0) T.cl_Table T.me_Table_sizes (ok_Table_sizes T) (hr.mono (by decide)) T.b_Table_sizes .nil pass0) (pa_cons (pv 2) pa_nil)))) (pg_name (i := 4) sc_avoided_sets.nd rfl (Or.inr rfl)) (pss_cons (ps_set (i := 5) sc_avoided_sets.nd rfl (Or.inl rfl) (pe_call (ok_weighted T) (hr.mono (by decide)) rfl T.m_weighted T.F_weighted.kp T.b_weighted .nil pass0 (pa_cons (pv 2) (pa_cons (pv 4) (pa_cons (pv 1) pa_nil))))) (pss_one (ps_for PassesOwn.never rfl (pi_range1 rfl T.z_range (pa_cons (pv 2) pa_nil)) (pg_name (i := 6) sc_avoided_sets.nd rfl (Or.inr rfl)) (pss_one (ps_if (pt_cmpR op_ne (pv 6) (pv 5) (nomark _)) (pss_one (ps_expr (pe_bm PySem.F.plainAttrs_list PySem.F.slot_list_append PySem.F.type_list_append mt_append (pv 3) (pa_cons (pe_lc (own := [("one", 7)]) (g := (gName 7)) rfl sc_avoided_sets.nd (pi_list (pe_call (ok_all_seats T) (hr.mono (by decide)) rfl T.m_all_seats T.F_all_seats.kp T.b_all_seats .nil pass0 (pa_cons (pv 0) pa_nil))) (blkOk_by (N := N_avoided_sets) (sc := defScope s_avoided_sets) (by decide +kernel)) (fun _ _ _ _ _ => (pg_name (i := 7) sc_avoided_sets.nd rfl (Or.inl rfl))) (fun _ _ _ _ _ => (pts_one (pt_cmpR op_eq (pe_call (ok_weighted T) (hr.mono (by decide)) rfl T.m_weighted T.F_weighted.kp T.b_weighted .nil pass0 (pa_cons (pv 2) (pa_cons (pv 4) (pa_cons (pv 7) pa_nil)))) (pv 6) (nomark _)))) (fun _ _ _ _ _ => (pv 7))) pa_nil)))) pss_nil)))))) (pss_one (ps_ret (pe_callB (cr_sortR (u65 hr)) (by rfl) T.z_sorted (by decide +kernel) (pa_cons (pv 3) pa_nil))))))))))), ?_⟩
    have l4 := ok.le
    refine ⟨_, rfl, a, ns, rfl, tab, ?_⟩
    refine ⟨_, rfl, _, rfl, a, _, ns, _, rfl, tab, l4, TupA.ints hs (by have := sk.len; omega), isSeat_ok sk, fun H1 e1 => ?_⟩
    refine ⟨_, rfl, a, ns, rfl, tab.mono e1, ok, pr, ?_⟩
    obtain ⟨dx, t, h1, h2⟩ := id (tab.mono e1)
    refine ⟨_, rfl, a, dx, _, rfl, h1, rfl, a, ns, rfl, tab.mono e1, ok, Int.le_trans pr (by decide), ?_⟩
    refine ⟨_, rfl, prodL_pos ok.one, pr, fun H2 e2 => ?_⟩
    dsimp only [gName]
    show tSeq _ _ _ [_, _, _, _, _, _, _, _] _
    refine ⟨_, rfl, rfl, _, rfl, ?_⟩
    have E2 := ext e1 e2
    cases hp : oddP (prodL ns) with
    | none =>
      refine itt rfl ⟨by show 0 ≤ sizeLine; decide, fun q hq => ?_⟩
      have e3 := exn (o := .lst []) hq
      refine k q [] _ (ext E2 e3) (Evl.fresh_back E2 hq) upd_same ?_
      have e : avL ns p = [] := by
        unfold avL
        rw [hp]
      rw [e, List.mergeSort_nil]
      exact .nil
    | some m =>
    have lo := oddP_some (prodL_pos ok.one) hp
    have m3 := lo.three
    have m300 : m ≤ 300 := Int.le_trans lo.le pr
    have n300 : ∀ n ∈ ns, n ≤ 300 := fun n hn => Int.le_trans (mul_le_of_mem ok.one hn) pr
    have wfacts : ∀ ws ∈ leadsL ns m, ws.length = ns.length ∧ ∀ x ∈ ws, x.natAbs < 2 ^ 5000 := fun ws hw => by
      obtain ⟨a1, a2, _⟩ := seat_ch (by omega) (mem_allS.mp (List.mem_filter.mp hw).1)
      exact ⟨a1, fun x hx => by
        have := a2 x hx
        exact Nat.lt_of_le_of_lt (show _ ≤ 300 by omega) (by decide +kernel)⟩
    have pfacts : ∀ q, SeatOk ns q → ∀ x ∈ q, x.natAbs < 2 ^ 5000 := fun q sq x hx => by
      have := seat_lt n300 sq x hx
      exact Nat.lt_of_le_of_lt (show _ ≤ 300 by omega) (by decide +kernel)
    refine itf rfl ⟨by show 0 ≤ sizeLine; decide, ?_⟩
    (intro f nf; generalize hGf : upd _ f _ = H3; have eH3 := exG hGf nf; have hf := atG hGf; clear hGf)
    have f0 : H f = none := Evl.fresh_back E2 nf
    have E3 := ext E2 eH3
    dsimp only [gName]
    show tSeq _ _ _ [_, _, _, _, _, _, _, _] _
    have tab3 := tab.mono E3
    obtain ⟨dx3, t3, h31, h32⟩ := id tab3
    refine ⟨_, rfl, a, dx3, _, rfl, h31, rfl, a, dx3, t3, rfl, h31, _, rfl, t3, ns, m, rfl, h32, ok, pr, m3, fun lq H4 e4 nlq hlq => ?_⟩
    obtain ⟨ls, hl1, hl2⟩ := id hlq
    have E4 := ext E3 e4
    refine ⟨lq, rfl, ⟨_, SqL.of hl1⟩, ?_⟩
    have nlf : lq ≠ f := fun z => by
      rw [z, hf] at nlq
      cases nlq
    have f4 := e4 _ _ hf
    refine for_it (walk_list (xs := ls)) (fun i σ Hx => ∃ (y1 y2 y3 y4 : Option V) (zs : List V), σ = [some (.ref a), some (.ref s), some (.int m), some (.ref f), y1, y2, y3, y4] ∧ XB f H4 Hx ∧ Hx f = some (.lst zs) ∧ SetR (fun c => H c = none ∧ c ≠ f) Hx zs ((leadsL ns m).take i |>.flatMap fun ws => avR ns p m ws m.toNat)) ⟨_, _, _, _, [], rfl, XB.refl, f4, .nil⟩ (fun i σ Hx _ ⟨_, _, _, _, _, _, xb, _⟩ => SqL.of (xb _ _ nlf hl1)) ?_ ?_
    · rintro i x σ _ Hx hi ⟨y1, y2, y3, y4, zs, rfl, xb, hfx, rx⟩ ⟨rfl, hx⟩
      obtain ⟨ws, r, hws, rfl, hr4⟩ := hl2.get hx
      have hrx := tup_xbl f4 hr4 xb
      have hsx := tup_xbl f4 (E4 _ _ hs) xb
      have mws := List.mem_of_getElem? hws
      obtain ⟨lws, bws⟩ := wfacts ws mws
      dsimp only [gName]
      show tSeq _ _ _ [_, _, _, _, _, _, _, _] _
      refine ⟨_, rfl, _, rfl, _, rfl, m, r, s, ws, p, rfl, by omega, hrx, hsx, by rw [lws, sk.len], by rw [sk.len]; exact l4, bws, pfacts p sk, fun H5 e5 => ?_⟩
      dsimp only [gName]
      refine ⟨_, rfl, m, rfl, by omega, by omega, ?_⟩
      have hf5 := e5 _ _ hfx
      have xb5 : XB f H4 H5 := xb.trans (XB.of e5)
      refine for_it walk_range (fun j σ Hy => ∃ (y3 y4 : Option V) (zs : List V), σ = [some (.ref a), some (.ref s), some (.int m), some (.ref f), some (.ref r), some (.int (wsum ws p % m)), y3, y4] ∧ XB f H4 Hy ∧ Hy f = some (.lst zs) ∧ SetR (fun c => H c = none ∧ c ≠ f) Hy zs (((leadsL ns m).take i |>.flatMap fun ws => avR ns p m ws m.toNat) ++ avR ns p m ws j)) ⟨_, _, zs, rfl, xb5, hf5, ?_⟩ (fun _ _ _ _ _ => True.intro) ?_ ?_
      · have : avR ns p m ws 0 = [] := rfl
        rw [this, List.append_nil]
        exact rx.monoE e5
      · rintro j x σ _ Hy hj ⟨y3, y4, zs, rfl, xby, hfy, ry⟩ ⟨rfl, hx⟩
        obtain rfl : x = .int (j : Int) := hx.trans (congrArg V.int (Int.zero_add _))
        dsimp only [gName]
        refine ⟨_, rfl, _, rfl, rfl, _, rfl, ?_⟩
        rw [avR_snoc]
        by_cases c : (j : Int) = wsum ws p % m
        · refine itf (by rw [c]; simp) ⟨_, _, zs, rfl, xby, hfy, ?_⟩
          rw [if_pos c, List.append_nil]
          exact ry
        · have nc : (!decide (V.int (j : Int) = V.int (wsum ws p % m))) = true := by simp [c]
          refine itt nc ?_
          rw [if_neg c]
          refine ⟨_, rfl, .inl ⟨rfl, _, SqL.of hfy⟩, ?_⟩
          have taby := tab_xbl f4 (tab.mono E4) xby
          refine ⟨_, rfl, a, ns, rfl, taby, ok, pr, fun aq H6 e6 naq haq => ?_⟩
          obtain ⟨as, ha1, ha2⟩ := id haq
          have la : as.length = (allS ns).length := Paired.length ha2
          have lA := allS_len ok.one
          have hry := tup_xbl f4 hr4 xby
          refine ⟨aq, rfl, ⟨_, SqL.of ha1⟩, fun D hD => ?_⟩
          refine lc_filt (walk_list (xs := as)) (as.zip (allS ns)) (fun z => decide (wsum ws z.2 % m = (j : Int))) (fun z => z.1) (by rw [List.length_zip]; omega) (by omega) hD (fun Hz ez => SqL.of (ez _ _ ha1)) ?_ ?_
          · rintro l x ⟨z1, z2⟩ _ Hz R S hz ez ⟨rfl, hx⟩ kR kS
            obtain ⟨hz1, hz2⟩ := zip_at2 hz
            obtain ⟨q, c2, hq, rfl, hc2⟩ := ha2.get hx
            obtain rfl : q = z2 := Option.some.inj (hq.symm.trans hz2)
            obtain rfl : V.ref c2 = z1 := Option.some.inj (hx.symm.trans hz1)
            have sq := mem_allS.mp (List.mem_of_getElem? hq)
            refine ⟨rfl, _, rfl, _, rfl, _, rfl, m, r, c2, ws, q, rfl, by omega, ez _ _ (e6 _ _ hry), ez _ _ hc2, by rw [lws, sq.len], by rw [sq.len]; exact l4, bws, pfacts q sq, fun Hw ew => ?_⟩
            refine ⟨_, rfl, rfl, _, rfl, ?_⟩
            by_cases cc : wsum ws q % m = (j : Int)
            · exact itt (decide_eq_true (congrArg V.int cc)) ⟨_, rfl, kR _ _ ew (decide_eq_true cc) rfl⟩
            · exact itf (decide_eq_false fun z => cc (V.int.inj z)) (kS _ ew (decide_eq_false cc))
          · intro H7 e7 hD7
            have E7 : Ex Hy H7 := ext e6 e7
            have hf7 := E7 _ _ hfy
            have nD : D ≠ f := fun z => by
              rw [z, e6 _ _ hfy] at hD
              cases hD
            have XE : Ex H Hy := ex_of_xb f0 E4 xby
            refine ⟨f, zs, _, rfl, rfl, hf7, ?_, ?_⟩
            · have := Paired.length ry
              rw [this]
              exact Nat.lt_of_le_of_lt (av_len ok.one pr m3 m300 mws i j (by have : j < m.toNat := hj; omega)) (by decide)
            · refine ⟨_, _, zs ++ [.ref D], rfl, (xby.trans (XB.of E7)).trans XB.upd, upd_same, ?_⟩
              rw [← List.append_assoc]
              refine paired_snoc ⟨D, rfl, ⟨Evl.fresh_back (ext XE e6) hD, nD⟩, rows_xbl hf7 nD XB.upd ⟨_, hD7, RowsR.filt (fun x => decide (wsum ws x % m = (j : Int))) (ha2.mono e7)⟩⟩ ?_
              exact paired_mono (fun _ _ ⟨c, e, n, h⟩ => ⟨c, e, n, rows_xbl hf7 n.2 XB.upd h⟩) (ry.monoE E7)
      · rintro σ Hy ⟨y3, y4, zs, rfl, xby, hfy, ry⟩
        refine ⟨_, _, _, _, zs, rfl, xby, hfy, ?_⟩
        rw [take_more hws, List.flatMap_append]
        simpa using ry
    · rintro σ Hx ⟨y1, y2, y3, y4, zs, rfl, xb, hfx, rx⟩
      rw [List.take_of_length_le (by have := Paired.length hl2; omega)] at rx
      have XE : Ex H Hx := ex_of_xb f0 E4 xb
      refine ⟨_, rfl, _, f, zs, _, rfl, hfx, rx, fun ys q hy hq => ?_⟩
      have eq := exn (o := .lst ys) hq
      refine k q ys _ (ext XE eq) (Evl.fresh_back XE hq) upd_same ?_
      have e : avL ns p = (leadsL ns m).flatMap fun ws => avR ns p m ws m.toNat := by
        unfold avL
        rw [hp]
        rfl
      rw [e]
      exact paired_mono (fun _ _ ⟨c, e, n, h⟩ => ⟨c, e, n.1, h.mono eq⟩) hy
end

section
variable {P : Program} {w : World} {K : PySem.W.Frag} {mg : Str → Option Value} {base : Heap}
def sp_law_value : Sp := fun vs H Q _ => ∃ (m : Int) (a b : Addr) (ws ps : List Int), vs = [.int m, .ref a, .ref b] ∧ 0 < m ∧ H a = some (.tup (ws.map V.int)) ∧ H b = some (.tup (ps.map V.int)) ∧ ws.length = ps.length ∧ ps.length ≤ 4 ∧ (∀ w ∈ ws, w.natAbs < 2 ^ 5000) ∧ (∀ p ∈ ps, p.natAbs < 2 ^ 5000) ∧ ∀ H2, Ex H H2 → Q (.int (wsum ws ps % m)) H2
theorem ok_law_value (T : TX K mg) : FnOk P w K mg base CX0 1 T.f_law_value T.fd_law_value ["_law_modulus", "_law_weights", "_law_spot"] sp_law_value := by
  refine T.F_law_value.ok sc_law_value (fun vs H Q E h => ?_) (fun cdv A outer s H vs Q E hr h => ?_)
  · obtain ⟨m, a, b, ws, ps, rfl, _⟩ := h
    rfl
  · obtain ⟨m, wa, b, ws, ps, rfl, m0, hwa, hb, l, l4, bw, bp, k⟩ := h
    refine ⟨_, (pss_one (ps_ret (pe_op op_mod (pe_callB (cr_sum rfl) (by rfl) T.z_sum (by decide +kernel) (pa_cons (pe_lc (own := [("_law_weight", 3), ("_law_place", 4)]) (g := (gTup K 2 (gCons (gName 3) (gCons (gName 4) gNil)))) rfl sc_law_value.nd (CZ.pi_z2 (fl := [true, true]) rfl (by rfl) T.z_zip (pa_cons (pv 1) (pa_cons (pv 2) pa_nil))) (blkOk_by (N := N_law_value) (sc := defScope s_law_value) (by decide +kernel)) (fun _ _ _ _ _ => (pg_tup rfl (pgs_cons (pg_name (i := 3) sc_law_value.nd rfl (Or.inl rfl)) (pgs_cons (pg_name (i := 4) sc_law_value.nd rfl (Or.inl rfl)) pgs_nil)))) (fun _ _ _ _ _ => pts_nil) (fun _ _ _ _ _ => (pe_op op_mulI (pv 3) (pv 4)))) pa_nil)) (pv 0)))), ?_⟩
    refine ⟨_, rfl, _, rfl, [wa, b], rfl, rfl, all2 (sqT hwa) (sqT hb), fun D hD => ?_⟩
    refine lc_vals (CZ.walk_rows (xss := [ws.map V.int, ps.map V.int]) (n := ps.length) (lens2 (by rw [List.length_map, l]) (by rw [List.length_map]))) ((List.zipWith (fun w x => w * x) ws ps).map V.int) (by rw [List.length_map, List.length_zipWith, l, Nat.min_self]) (by omega) hD (fun H3 e => .cons (sqT (e _ _ hwa)) (.cons (sqT (e _ _ hb)) .nil)) ?_ (gmono_tup (gmono_cons gmono_name (gmono_cons gmono_name gmono_nil))) ?_
    · intro j y H6 H7 R hj e yy kk
      obtain ⟨Tb, p, d, rfl, hTb, rfl, hp, hdd⟩ := yints2 yy
      refine ⟨Tb, _, rfl, SqT.of upd_same, rfl, _, _, rfl, _, _, rfl, rfl, ?_⟩
      refine ⟨rfl, _, rfl, _, rfl, _, _, rfl, rfl, (wide_mul (bw p (List.mem_of_getElem? hp)) (bp d (List.mem_of_getElem? hdd)) (by decide) (by decide) (by decide)).ok, ?_⟩
      refine kk _ _ (exn hTb) ?_
      rw [List.getElem?_map, List.getElem?_zipWith, hp, hdd]
      rfl
    · intro H3 e3 hD3
      exact ⟨D, _, rfl, SqL.of hD3, _, rfl, _, _, rfl, rfl, m0, k _ e3⟩
end

section
variable {P : Program} {w : World} {K : PySem.W.Frag} {mg : Str → Option Value} {base : Heap}
def sp_law_all : Sp := fun vs H Q _ => ∃ (l : Addr) (ns : List Int), vs = [.ref l] ∧ H l = some (.tup (ns.map V.int)) ∧ SzOk ns ∧ prodL ns ≤ 300 ∧ ∀ q H2, Ex H H2 → H q = none → RowsAt H2 q (allS ns) → Q (.ref q) H2
theorem ok_law_all (T : TX K mg) : FnOk P w K mg base CX0 1 T.f_law_all T.fd_law_all ["_law_rings_here"] sp_law_all := by
  refine T.F_law_all.ok sc_law_all (fun vs H Q E h => ?_) (fun cdv A outer s H vs Q E hr h => ?_)
  · obtain ⟨l, ns, rfl, _⟩ := h
    rfl
  · obtain ⟨l, ns, rfl, hl, ok, pr, k⟩ := h
    have l4 := ok.le
    refine ⟨_, (pss_cons (ps_set (i := 1) sc_law_all.nd rfl (Or.inl rfl) (pe_lst (pa_cons (pe_tup pa_nil) pa_nil))) (pss_cons (ps_for PassesOwn.never rfl (pi_tup (pv 0)) (pg_name (i := 2) sc_law_all.nd rfl (Or.inl rfl)) (pss_cons (ps_set (i := 3) sc_law_all.nd rfl (Or.inl rfl) (pe_lst pa_nil)) (pss_cons (ps_for PassesOwn.never rfl (pi_list (pv 1)) (pg_name (i := 4) sc_law_all.nd rfl (Or.inr rfl)) (pss_one (ps_expr (pe_bm PySem.F.plainAttrs_list PySem.F.slot_list_extend PySem.F.type_list_extend mt_extend (pv 3) (pa_cons (pe_lc (own := [("_law_place", 5)]) (g := (gName 5)) rfl sc_law_all.nd (pi_range1 rfl T.z_range (pa_cons (pv 2) pa_nil)) (blkOk_by (N := N_law_all) (sc := defScope s_law_all) (by decide +kernel)) (fun _ _ _ _ _ => (pg_name (i := 5) sc_law_all.nd rfl (Or.inl rfl))) (fun _ _ _ _ _ => pts_nil) (fun _ _ _ _ _ => (pe_op (r := rCatA K) op_catA (pv 4) (pe_tup (pa_cons (pv 5) pa_nil))))) pa_nil))))) (pss_one (ps_set (i := 1) sc_law_all.nd rfl (Or.inl rfl) (pv 3)))))) (pss_one (ps_ret (pv 1))))), ?_⟩
    refine ⟨by show 0 ≤ sizeLine; decide, fun u hu => ⟨by show 1 ≤ sizeLine; decide, fun f hf => ?_⟩⟩
    have e2 : Ex H (upd (upd H u (.tup [])) f (.lst [.ref u])) := ext (exn hu) (exn hf)
    have f0 : H f = none := Evl.fresh_back (exn hu) hf
    refine ⟨_, rfl, l, rfl, ⟨_, SqT.of (e2 _ _ hl)⟩, ?_⟩
    refine for_it (walk_tup (xs := ns.map V.int)) (fun i σ H2 => ∃ (f : Addr) (y2 y3 y4 y5 : Option V), σ = [some (.ref l), some (.ref f), y2, y3, y4, y5] ∧ Ex H H2 ∧ H f = none ∧ RowsAt H2 f (allS (ns.take i))) ⟨_, _, _, _, _, rfl, e2, f0, _, upd_same, .cons ⟨u, rfl, by rw [upd_ne (ne_of_none upd_same hf)]; exact upd_same⟩ .nil⟩ (fun i σ H2 _ ⟨_, _, _, _, _, _, e, _⟩ => SqT.of (e _ _ hl)) ?_ ?_
    · rintro i x σ _ H2 hi ⟨f, y2, y3, y4, y5, rfl, e3, f0, ra⟩ ⟨rfl, hx⟩
      obtain ⟨n, hn, rfl⟩ := map_get hx
      have n1 := ok.one n (List.mem_of_getElem? hn)
      have nb := mul_le_prod ok.one hn
      have ezs := take_more hn
      have o1 : ∀ m ∈ ns.take i, 1 ≤ m := fun m hm => ok.one m (List.mem_of_mem_take hm)
      have len : ((allS (ns.take i)).length : Int) ≤ 300 := by
        rw [allS_len o1]
        exact Int.le_trans (prodL_take i ok.one) pr
      have rows : ∀ hs ∈ allS (ns.take i), hs.length ≤ 4 := fun hs hh => by
        rw [rows_allS hs hh, List.length_take]
        omega
      refine ⟨by show 0 ≤ sizeLine; decide, fun L hL => ?_⟩
      obtain ⟨xs, ra5, rr⟩ := id ra
      generalize hh : allS (ns.take i) = hss at rr len rows
      have e4 := exn (o := .lst []) hL
      refine ⟨_, rfl, f, rfl, ⟨_, SqL.of (e4 _ _ ra5)⟩, ?_⟩
      refine for_it (walk_list (xs := xs)) (fun j σ H3 => ∃ y4 y5 : Option V, σ = [some (.ref l), some (.ref f), some (.int n), some (.ref L), y4, y5] ∧ Ex H2 H3 ∧ RowsAt H3 L (crossS (hss.take j) n)) ⟨_, _, rfl, e4, _, upd_same, .nil⟩ (fun j σ H3 _ ⟨_, _, _, e, _⟩ => SqL.of (e _ _ ra5)) ?_ ?_
      · rintro j x σ _ H3 hj ⟨y4, y5, rfl, e5, rb⟩ ⟨rfl, hx⟩
        obtain ⟨hs, r, hhs, rfl, hr4⟩ := rr.get hx
        obtain ⟨ys, hy1, hy2⟩ := id rb
        have hsl := rows hs (List.mem_of_getElem? hhs)
        refine ⟨_, rfl, .inl ⟨rfl, _, SqL.of hy1⟩, _, rfl, n, rfl, by omega, by omega, fun D hD => ?_⟩
        refine lc_rows walk_range hs ((List.range n.toNat).map fun (i : Nat) => (i : Int)) (by simp) (by omega) hD (fun _ _ => True.intro) ?_ gmono_name ?_
        · rintro m x _ H5 R hm e6 ⟨rfl, hx⟩ kk
          obtain rfl : x = .int (m : Int) := hx.trans (congrArg V.int (Int.zero_add _))
          refine ⟨rfl, _, rfl, _, rfl, by show 1 ≤ sizeLine; decide, fun v hv => ?_⟩
          have hm2 : m < n.toNat := hm
          refine cat_row (exn hv _ _ (e6 _ _ (e5 _ _ hr4))) upd_same (by omega) fun z H6 e7 hz => kk _ z H6 (ext (exn hv) e7) ?_ hz
          rw [List.getElem?_map, List.getElem?_range hm2]
          rfl
        · intro H4 e6 rc
          have neL : L ≠ D := ne_of_none hy1 hD
          obtain ⟨as, bs, g1, g2, g3, g4, g5⟩ := rows_ext (rb.mono e6) rc neL
          refine ⟨L, D, as, bs, rfl, rfl, g1, g2, ?_, ?_⟩
          · simp only [g3, g4, crossS_len, List.length_map, List.length_range, List.length_take]
            have : min j hss.length * n.toNat ≤ 300 * 300 := Nat.mul_le_mul (by omega) (by omega)
            exact Nat.le_trans (show _ ≤ 90300 by omega) (by decide)
          · refine ⟨_, _, rfl, ex_upd (ext e5 e6) hL, ?_⟩
            rw [take_more hhs, crossS_snoc]
            rw [List.map_map] at g5
            exact g5
      · rintro σ H3 ⟨y4, y5, rfl, e5, rb⟩
        rw [rr.len, List.take_length] at rb
        rw [ezs, allS_snoc, hh]
        exact ⟨_, rfl, L, _, _, _, _, rfl, ext e3 e5, Evl.fresh_back e3 hL, rb⟩
    · rintro σ H2 ⟨f, y2, y3, y4, y5, rfl, e3, f0, ra⟩
      rw [List.length_map, List.take_length] at ra
      exact ⟨_, rfl, k f _ e3 f0 ra⟩
end

theorem bez : ∀ (b a : Nat), ∃ x y : Int, (a : Int) * x + (b : Int) * y = ((Nat.gcd a b : Nat) : Int) := by
  intro b
  induction b using Nat.strongRecOn with
  | ind b ih =>
    intro a
    by_cases h : b = 0
    · subst h
      exact ⟨1, 0, by simp⟩
    · obtain ⟨x, y, e⟩ := ih (a % b) (Nat.mod_lt _ (by omega)) b
      refine ⟨y, x - (a / b : Nat) * y, ?_⟩
      rw [Nat.gcd_comm a b, Nat.gcd_rec b a, Nat.gcd_comm (a % b) b, ← e]
      have d : (a : Int) = (b : Int) * (a / b : Nat) + (a % b : Nat) := by
        have := Nat.div_add_mod a b
        rw [← Int.natCast_mul, ← Int.natCast_add, this]
      generalize ((a / b : Nat) : Int) = q at *
      generalize ((a % b : Nat) : Int) = r at *
      rw [d]
      grind

/-! ### classes of one size -/
def sumF : Nat → (Nat → Nat) → Nat
  | 0, _ => 0
  | m + 1, g => sumF m g + g m
theorem fil_add {α : Type} (f : α → Nat) (m : Nat) (l : List α) : (l.filter fun a => decide (f a < m + 1)).length = (l.filter fun a => decide (f a < m)).length + (l.filter fun a => decide (f a = m)).length := by
  induction l with
  | nil => rfl
  | cons a l ih =>
    by_cases c : f a < m
    · rw [List.filter_cons_of_pos (by simpa using Nat.lt_succ_of_lt c), List.filter_cons_of_pos (by simpa using c), List.filter_cons_of_neg (by simpa using Nat.ne_of_lt c), List.length_cons, List.length_cons, ih]
      omega
    · by_cases e : f a = m
      · rw [List.filter_cons_of_pos (by simp; omega), List.filter_cons_of_neg (by simpa using c), List.filter_cons_of_pos (by simpa using e), List.length_cons, List.length_cons, ih]
        omega
      · rw [List.filter_cons_of_neg (by simp; omega), List.filter_cons_of_neg (by simpa using c), List.filter_cons_of_neg (by simpa using e), ih]
theorem sumF_fil {α : Type} (f : α → Nat) (l : List α) : ∀ m, sumF m (fun r => (l.filter fun a => decide (f a = r)).length) = (l.filter fun a => decide (f a < m)).length
  | 0 => by
    show 0 = _
    rw [List.filter_eq_nil_iff.mpr (fun a _ => by simp)]
    rfl
  | m + 1 => by
    show sumF m _ + _ = _
    rw [sumF_fil f l m, fil_add]
theorem sumF_low {M N : Nat} {g : Nat → Nat} {r0 : Nat} : ∀ k, (∀ r, r < k → N ≤ g r * M) → k * N + (if r0 < k then g r0 * M - N else 0) ≤ sumF k g * M
  | 0, _ => by simp [sumF]
  | k + 1, h => by
    have ih := sumF_low (r0 := r0) k fun r hr => h r (by omega)
    have hk := h k (by omega)
    show _ ≤ (sumF k g + g k) * M
    rw [Nat.add_mul, Nat.add_mul]
    by_cases c : r0 < k
    · rw [if_pos c] at ih
      rw [if_pos (by omega)]
      omega
    · rw [if_neg c] at ih
      by_cases e : r0 = k
      · subst e
        rw [if_pos (by omega)]
        omega
      · rw [if_neg (by omega)]
        omega
theorem sumF_even {m N : Nat} {g : Nat → Nat} (h : ∀ r, r < m → N ≤ g r * m) (t : sumF m g = N) : ∀ r, r < m → g r * m = N := fun r hr => by
  have h1 := sumF_low (r0 := r) m h
  rw [if_pos hr, t, Nat.mul_comm N m] at h1
  have h2 := h r hr
  omega
theorem even_cls {ns : List Int} (one : ∀ n ∈ ns, 1 ≤ n) {m : Nat} {f : List Int → Nat} (fb : ∀ x ∈ allS ns, f x < m) (g : Nat → Nat → List Int) (gl : ∀ k j, (g k j).length = ns.length) (hg : ∀ k, k < m → ∀ x ∈ allS ns, f (shiftL ns x (g k (f x)) 1) = k) :
    ∀ k, k < m → ((allS ns).filter fun x => decide (f x = k)).length * m = (allS ns).length := by
  refine sumF_even (fun k hk => ?_) ?_
  · let F : List Int → List Int × Nat := fun x => (shiftL ns x (g k (f x)) 1, f x)
    have inj : ∀ a ∈ allS ns, ∀ b ∈ allS ns, F a = F b → a = b := fun a ha b hb e => by
      obtain ⟨e1, e2⟩ := Prod.mk.inj e
      rw [e2] at e1
      have := congrArg (fun z => shiftL ns z (g k (f b)) (-1)) e1
      rw [shift_back (mem_allS.mp ha) (gl _ _), shift_back (mem_allS.mp hb) (gl _ _)] at this
      exact this
    have nod := CT.nodup_maps inj (allS_nodup ns)
    have sub := nod.length_le_of_subset (l₂ := ((allS ns).filter fun x => decide (f x = k)).flatMap fun q => (List.range m).map fun (i : Nat) => (q, i)) fun z hz => by
      obtain ⟨x, hx, rfl⟩ := List.mem_map.mp hz
      have sx := mem_allS.mp hx
      exact List.mem_flatMap.mpr ⟨shiftL ns x (g k (f x)) 1, List.mem_filter.mpr ⟨mem_allS.mpr (shift_seat one sx.len (gl _ _)), decide_eq_true (hg k hk x hx)⟩, List.mem_map.mpr ⟨f x, List.mem_range.mpr (fb x hx), rfl⟩⟩
    rw [List.length_map] at sub
    refine Nat.le_trans sub (Nat.le_of_eq ?_)
    generalize ((allS ns).filter fun x => decide (f x = k)) = l
    rw [List.length_flatMap]
    induction l with
    | nil => simp
    | cons a l ih =>
      rw [List.map_cons, List.sum_cons, ih, List.length_map, List.length_range, List.length_cons, Nat.succ_mul]
      omega
  · rw [sumF_fil, List.filter_eq_self.mpr fun a ha => decide_eq_true (fb a ha)]
/-! ### weights -/
theorem wsum_add : ∀ {ws u v : List Int}, u.length = ws.length → v.length = ws.length → wsum ws (List.zipWith (fun a b => a + b) u v) = wsum ws u + wsum ws v
  | [], [], [], _, _ => rfl
  | w :: ws, a :: u, b :: v, h1, h2 => by
    rw [List.zipWith_cons_cons, wsum_cons, wsum_cons, wsum_cons, wsum_add (Nat.succ.inj h1) (Nat.succ.inj h2)]
    grind
def vec2 (n i : Nat) (a : Int) (j : Nat) (b : Int) : List Int := List.zipWith (fun a b => a + b) (unitL n i a) (unitL n j b)
theorem unitL_len (n i : Nat) (a : Int) : (unitL n i a).length = n := by unfold unitL; simp
theorem vec2_len (n i : Nat) (a : Int) (j : Nat) (b : Int) : (vec2 n i a j b).length = n := by
  unfold vec2
  rw [List.length_zipWith, unitL_len, unitL_len, Nat.min_self]
theorem wsum_vec2 {ws : List Int} {n i j : Nat} {a b x y : Int} (l : ws.length = n) (hi : i < n) (hj : j < n) (hx : ws[i]? = some x) (hy : ws[j]? = some y) : wsum ws (vec2 n i a j b) = x * a + y * b := by
  unfold vec2
  rw [wsum_add (by rw [unitL_len, l]) (by rw [unitL_len, l]), wsum_unit l hi hx, wsum_unit l hj hy]
theorem lead_first : ∀ {ws : List Int}, leadB ws = true → ∃ (j : Nat), j < ws.length ∧ ws[j]? = some 1 ∧ ∀ k, k < j → ws[k]? = some 0
  | [], h => by simp [leadB] at h
  | w :: ws, h => by
    by_cases c : w = 0
    · subst c
      have : leadB ws = true := by
        unfold leadB at h ⊢
        rw [List.filter_cons_of_neg (by simp)] at h
        exact h
      obtain ⟨j, h1, h2, h3⟩ := lead_first this
      refine ⟨j + 1, by simp; exact h1, by simpa using h2, fun k hk => ?_⟩
      cases k with
      | zero => rfl
      | succ k => simpa using h3 k (by omega)
    · unfold leadB at h
      rw [List.filter_cons_of_pos (by simpa using c)] at h
      simp at h
      exact ⟨0, by simp, by simp [h], fun k hk => absurd hk (by omega)⟩
theorem lead_of : ∀ {ws : List Int} {j : Nat}, ws[j]? = some 1 → (∀ k, k < j → ws[k]? = some 0) → leadB ws = true
  | [], j, h, _ => by simp at h
  | w :: ws, 0, h, _ => by
    obtain rfl : w = 1 := by simpa using h
    unfold leadB
    rw [List.filter_cons_of_pos (by decide)]
    simp
  | w :: ws, j + 1, h, h0 => by
    obtain rfl : w = 0 := by simpa using h0 0 (by omega)
    have := lead_of (ws := ws) (j := j) (by simpa using h) fun k hk => by simpa using h0 (k + 1) (by omega)
    unfold leadB at this ⊢
    rw [List.filter_cons_of_neg (by simp)]
    exact this
theorem lead_nz {ws : List Int} (h : leadB ws = true) : ∃ w ∈ ws, w ≠ 0 := by
  obtain ⟨j, _, h1, _⟩ := lead_first h
  exact ⟨1, List.mem_of_getElem? h1, by decide⟩
/-- the first weight that is not 0 -/
theorem first_nz : ∀ {ws : List Int}, (∃ w ∈ ws, w ≠ 0) → ∃ (j : Nat) (x : Int), ws[j]? = some x ∧ x ≠ 0 ∧ ∀ k, k < j → ws[k]? = some 0
  | [], ⟨_, h, _⟩ => by cases h
  | w :: ws, ⟨y, hy, y0⟩ => by
    by_cases c : w = 0
    · subst c
      have hm : y ∈ ws := by
        rcases List.mem_cons.mp hy with e | h
        · exact absurd e y0
        · exact h
      obtain ⟨j, x, h1, h2, h3⟩ := first_nz ⟨y, hm, y0⟩
      refine ⟨j + 1, x, by simpa using h1, h2, fun k hk => ?_⟩
      cases k with
      | zero => rfl
      | succ k => simpa using h3 k (by omega)
    · exact ⟨0, w, rfl, c, fun k hk => absurd hk (by omega)⟩
/-- an inverse -/
theorem inv_of {p N x : Int} (L : LeastOdd N p) (h : x % p ≠ 0) : ∃ y : Int, x * y % p = 1 := by
  have p3 := L.three
  have x0 := Int.emod_nonneg x (show p ≠ 0 by omega)
  have x1 := Int.emod_lt_of_pos x (show 0 < p by omega)
  obtain ⟨a, ha⟩ : ∃ a : Nat, x % p = (a : Int) := ⟨(x % p).toNat, by omega⟩
  obtain ⟨q, rfl⟩ : ∃ q : Nat, p = (q : Int) := ⟨p.toNat, by omega⟩
  have a0 : a ≠ 0 := by omega
  have aq : a < q := by omega
  have g1 : Nat.gcd a q = 1 := by
    refine Classical.byContradiction fun ng => ?_
    have gd : Nat.gcd a q ∣ q := Nat.gcd_dvd_right a q
    have ga : Nat.gcd a q ≤ a := Nat.le_of_dvd (by omega) (Nat.gcd_dvd_left a q)
    have g0 : 0 < Nat.gcd a q := Nat.gcd_pos_of_pos_left _ (by omega)
    have od : Nat.gcd a q % 2 = 1 := by
      refine Classical.byContradiction fun z => ?_
      have : 2 ∣ q := Nat.dvd_trans (Nat.dvd_of_mod_eq_zero (by omega)) gd
      have := L.odd
      omega
    have := L.least ((Nat.gcd a q : Nat) : Int) (by omega) (by omega) (Int.dvd_trans (Int.natCast_dvd_natCast.mpr gd) L.dvd)
    omega
  obtain ⟨u, v, huv⟩ := bez q a
  rw [g1] at huv
  refine ⟨u, ?_⟩
  have e1 : x = (a : Int) + (q : Int) * (x / q) := by
    have := Int.mul_ediv_add_emod x q
    omega
  have e2 : x * u = 1 + (q : Int) * (x / q * u - v) := by
    rw [e1]
    have : (a : Int) * u = 1 - (q : Int) * v := by
      have : ((1 : Nat) : Int) = 1 := rfl
      omega
    grind
  rw [e2, Int.add_mul_emod_self_left]
  exact Int.emod_eq_of_lt (by omega) (by omega)

theorem ltT_is (a b : List Int) : PySem.W.dataLt (iT a) (iT b) = decide (a < b) := by
  show PySem.W.dataLt (.tuple (a.map .int)) (.tuple (b.map .int)) = _
  rw [PySem.W.dataLt_tuple]
  exact PySem.W.dataLt_ints a b
theorem leT_is (a b : List Int) : leT a b = decide (a ≤ b) := by
  show (!PySem.W.dataLt (iT b) (iT a)) = _
  rw [ltT_is]
  by_cases h : b < a
  · have h' : ¬ a ≤ b := fun r => List.not_lt.mpr r h
    simp [h, h']
  · have h' : a ≤ b := List.not_lt.mp h
    simp [h, h']
theorem leT_trans (a b c : List Int) (h1 : leT a b = true) (h2 : leT b c = true) : leT a c = true := by
  rw [leT_is] at *
  exact decide_eq_true (List.le_trans (of_decide_eq_true h1) (of_decide_eq_true h2))
theorem leT_total (a b : List Int) : (leT a b || leT b a) = true := by
  rw [leT_is, leT_is, Bool.or_eq_true, decide_eq_true_iff, decide_eq_true_iff]
  exact List.le_total a b
theorem leT_anti {a b : List Int} (h1 : leT a b = true) (h2 : leT b a = true) : a = b := by
  rw [leT_is] at *
  exact List.le_antisymm (of_decide_eq_true h1) (of_decide_eq_true h2)

/-! ### the order of sorted: lists of tuples of ints -/
theorem rowLt_rows : ∀ xs ys : List (List Int), PySem.W.rowLt (xs.map iT) (ys.map iT) = decide (xs < ys)
  | [], [] => by
    have e : PySem.W.rowLt [] [] = false := lex_irrefl _
    simp [e]
  | [], y :: ys => by
    have e : PySem.W.rowLt [] (iT y :: ys.map iT) = true := by
      unfold PySem.W.rowLt
      simp only [PySem.W.keyToksAll, PySem.W.toks_all_cons, iT, PySem.W.keyToks]
      rw [lex_diff (O := itemOrd) (by simp)]
      rfl
    simpa using e
  | x :: xs, [] => by
    have e : PySem.W.rowLt (iT x :: xs.map iT) [] = false := by
      unfold PySem.W.rowLt
      simp only [PySem.W.keyToksAll, PySem.W.toks_all_cons, iT, PySem.W.keyToks]
      rw [lex_diff (O := itemOrd) (by simp)]
      rfl
    simpa using e
  | x :: xs, y :: ys => by
    have e : PySem.W.rowLt (iT x :: xs.map iT) (iT y :: ys.map iT) = if x = y then PySem.W.rowLt (xs.map iT) (ys.map iT) else decide (x < y) := by
      unfold PySem.W.rowLt
      rw [PySem.W.dataLt_cons (alike_iT _ _), eqv_ints, ltT_is]
      by_cases h : x = y
      · rw [if_pos (decide_eq_true h), if_pos h]
      · rw [if_neg (by simpa using h), if_neg h]
    rw [List.map_cons, List.map_cons, e, rowLt_rows xs ys]
    by_cases h : x = y
    · subst h
      rw [if_pos rfl]
      simp [List.cons_lt_cons_iff, List.lt_irrefl]
    · rw [if_neg h]
      simp [List.cons_lt_cons_iff, h]
theorem leR_is (a b : List (List Int)) : leR a b = decide (a ≤ b) := by
  show (!PySem.W.dataLt (.list (b.map iT)) (.list (a.map iT))) = _
  rw [PySem.W.dataLt_list, show PyProof.Rows.lexLt itemOrd (PySem.W.keyToksAll (b.map iT)) (PySem.W.keyToksAll (a.map iT)) = PySem.W.rowLt (b.map iT) (a.map iT) from rfl, rowLt_rows]
  by_cases h : b < a
  · have h' : ¬ a ≤ b := fun r => List.not_lt.mpr r h
    simp [h, h']
  · have h' : a ≤ b := List.not_lt.mp h
    simp [h, h']
theorem leR_trans (a b c : List (List Int)) (h1 : leR a b = true) (h2 : leR b c = true) : leR a c = true := by
  rw [leR_is] at *
  exact decide_eq_true (List.le_trans (of_decide_eq_true h1) (of_decide_eq_true h2))
theorem leR_total (a b : List (List Int)) : (leR a b || leR b a) = true := by
  rw [leR_is, leR_is, Bool.or_eq_true, decide_eq_true_iff, decide_eq_true_iff]
  exact List.le_total a b
theorem leR_anti {a b : List (List Int)} (h1 : leR a b = true) (h2 : leR b a = true) : a = b := by
  rw [leR_is] at *
  exact List.le_antisymm (of_decide_eq_true h1) (of_decide_eq_true h2)
theorem sortR_same {l m : List (List (List Int))} (h : l.Perm m) : l.mergeSort leR = m.mergeSort leR :=
  List.Perm.eq_of_pairwise (le := fun a b => leR a b = true) (fun a b _ _ h1 h2 => leR_anti h1 h2) (List.pairwise_mergeSort leR_trans leR_total l) (List.pairwise_mergeSort leR_trans leR_total m) (((List.mergeSort_perm l leR).trans h).trans (List.mergeSort_perm m leR).symm)

/-! ### classes modulo a prime -/
/-- weights that fit the rings modulo p -/
structure FitW (ns : List Int) (p : Int) (ws : List Int) : Prop where
  len : ws.length = ns.length
  w0 : ∀ x ∈ ws, 0 ≤ x ∧ x < p
  fit : ∀ (i : Nat) (x n : Int), ws[i]? = some x → ns[i]? = some n → x * n % p = 0
theorem FitW.of {ns ws : List Int} {p : Int} (p0 : 0 < p) (h : ws ∈ allS (chL p ns)) : FitW ns p ws := by
  obtain ⟨a, b, c⟩ := seat_ch p0 (mem_allS.mp h)
  exact ⟨a, b, c⟩
theorem FitW.shift {ns ws x v : List Int} {p : Int} (F : FitW ns p ws) (lx : x.length = ns.length) (lv : v.length = ns.length) : wsum ws (shiftL ns x v 1) % p = (wsum ws x + wsum ws v) % p := by
  have h := wsum_shiftL (f := 1) F.len lx lv F.fit
  rw [Int.one_mul] at h
  exact Int.emod_eq_emod_iff_emod_sub_eq_zero.mpr (Int.emod_eq_zero_of_dvd h)
theorem cls_nat {ns ws : List Int} {p : Int} (p0 : 0 < p) (r : Nat) : clsL ns p ws (r : Int) = (allS ns).filter fun x => decide ((wsum ws x % p).toNat = r) := by
  unfold clsL
  refine List.filter_congr fun x _ => decide_eq_decide.mpr ?_
  have := Int.emod_nonneg (wsum ws x) (show p ≠ 0 by omega)
  omega
theorem cls_exact {ns ws : List Int} {p : Int} (one : ∀ n ∈ ns, 1 ≤ n) (p0 : 0 < p) (F : FitW ns p ws) {j : Nat} (hw : ws[j]? = some 1) {r : Int} (r0 : 0 ≤ r) (r1 : r < p) : ((clsL ns p ws r).length : Int) * p = prodL ns := by
  obtain ⟨k, rfl⟩ : ∃ k : Nat, r = (k : Int) := ⟨r.toNat, by omega⟩
  obtain ⟨P, rfl⟩ : ∃ P : Nat, p = (P : Int) := ⟨p.toNat, by omega⟩
  have hj : j < ns.length := by rw [← F.len]; exact (List.getElem?_eq_some_iff.mp hw).1
  have key := even_cls one (m := P) (f := fun x => (wsum ws x % (P : Int)).toNat) (fun x _ => by
    have := Int.emod_nonneg (wsum ws x) (show (P : Int) ≠ 0 by omega)
    have := Int.emod_lt_of_pos (wsum ws x) p0
    show (_ : Nat) < P
    omega) (fun a b => unitL ns.length j ((a : Int) - (b : Int))) (fun _ _ => unitL_len _ _ _) (fun a ha x hx => by
    have sx := mem_allS.mp hx
    show (wsum ws (shiftL ns x (unitL ns.length j ((a : Int) - ((wsum ws x % (P : Int)).toNat : Int))) 1) % (P : Int)).toNat = a
    rw [F.shift sx.len (unitL_len _ _ _), wsum_unit F.len hj hw, Int.one_mul, Int.toNat_of_nonneg (Int.emod_nonneg _ (by omega))]
    have e : wsum ws x + ((a : Int) - wsum ws x % (P : Int)) = (a : Int) + (P : Int) * (wsum ws x / (P : Int)) := by
      have := Int.mul_ediv_add_emod (wsum ws x) (P : Int)
      omega
    rw [e, Int.add_mul_emod_self_left, Int.emod_eq_of_lt (by omega) (by omega)]
    rfl) k (by omega)
  rw [cls_nat p0, ← allS_len one, ← key, Int.natCast_mul]
/-- two rows of weights, not multiples -/
theorem pair_exact {ns ws ws2 : List Int} {N p : Int} (one : ∀ n ∈ ns, 1 ≤ n) (L : LeastOdd N p) (F : FitW ns p ws) (F2 : FitW ns p ws2) {i j : Nat} {y x2 y2 : Int} (hi : ws[i]? = some 1) (hy : ws[j]? = some y) (h2 : ws2[i]? = some x2) (hy2 : ws2[j]? = some y2) (mu : (y2 - y * x2) % p ≠ 0) {r r2 : Int} (r0 : 0 ≤ r) (r1 : r < p) (q0 : 0 ≤ r2) (q1 : r2 < p) :
    ((((clsL ns p ws r).filter fun x => decide (wsum ws2 x % p = r2)).length : Nat) : Int) * p * p = prodL ns := by
  have p3 := L.three
  obtain ⟨k, rfl⟩ : ∃ k : Nat, r = (k : Int) := ⟨r.toNat, by omega⟩
  obtain ⟨k2, rfl⟩ : ∃ k : Nat, r2 = (k : Int) := ⟨r2.toNat, by omega⟩
  obtain ⟨m', hm⟩ := inv_of L mu
  obtain ⟨P, rfl⟩ : ∃ P : Nat, p = (P : Int) := ⟨p.toNat, by omega⟩
  have li : i < ns.length := by rw [← F.len]; exact (List.getElem?_eq_some_iff.mp hi).1
  have lj : j < ns.length := by rw [← F.len]; exact (List.getElem?_eq_some_iff.mp hy).1
  have p0 : 0 < (P : Int) := by omega
  let f1 : List Int → Nat := fun x => (wsum ws x % (P : Int)).toNat
  let f2 : List Int → Nat := fun x => (wsum ws2 x % (P : Int)).toNat
  have b1 : ∀ x, f1 x < P := fun x => by
    have := Int.emod_nonneg (wsum ws x) (show (P : Int) ≠ 0 by omega)
    have := Int.emod_lt_of_pos (wsum ws x) p0
    show (_ : Int).toNat < P
    omega
  have b2 : ∀ x, f2 x < P := fun x => by
    have := Int.emod_nonneg (wsum ws2 x) (show (P : Int) ≠ 0 by omega)
    have := Int.emod_lt_of_pos (wsum ws2 x) p0
    show (_ : Int).toNat < P
    omega
  have pos : 0 < P := by omega
  let dd : Nat → Nat → Int := fun a b => ((a / P : Nat) : Int) - ((b / P : Nat) : Int)
  let cc : Nat → Nat → Int := fun a b => (((a % P : Nat) : Int) - ((b % P : Nat) : Int) - x2 * dd a b) * m'
  have split : ∀ a b, b < P → (a * P + b) / P = a ∧ (a * P + b) % P = b := fun a b hb => by
    constructor
    · rw [Nat.mul_comm, Nat.mul_add_div pos, Nat.div_eq_of_lt hb, Nat.add_zero]
    · rw [Nat.mul_comm, Nat.mul_add_mod, Nat.mod_eq_of_lt hb]
  have val : ∀ (w : List Int) (x : List Int) (d : Int) (a : Nat), a < P → (wsum w x + d) % (P : Int) = ((a : Int) + 0) % (P : Int) → (wsum w x + d) % (P : Int) = a := fun w x d a ha h => by
    rw [h, Int.add_zero, Int.emod_eq_of_lt (by omega) (by omega)]
  have key := even_cls one (m := P * P) (f := fun x => f1 x * P + f2 x) (fun x _ => by
    have h1 := b1 x
    have h2 := b2 x
    have : f1 x * P + P ≤ P * P := by
      rw [← Nat.succ_mul]
      exact Nat.mul_le_mul_right P h1
    show f1 x * P + f2 x < P * P
    omega) (fun a b => vec2 ns.length i (dd a b - cc a b * y) j (cc a b)) (fun _ _ => vec2_len _ _ _ _ _) (fun a ha x hx => by
    have sx := mem_allS.mp hx
    obtain ⟨s1, s2⟩ := split (f1 x) (f2 x) (b2 x)
    have a1 : a / P < P := Nat.div_lt_of_lt_mul ha
    have a2 : a % P < P := Nat.mod_lt _ pos
    have n1 : (f1 x : Int) = wsum ws x % (P : Int) := Int.toNat_of_nonneg (Int.emod_nonneg _ (by omega))
    have n2 : (f2 x : Int) = wsum ws2 x % (P : Int) := Int.toNat_of_nonneg (Int.emod_nonneg _ (by omega))
    generalize hd : dd a (f1 x * P + f2 x) = d
    generalize hc : cc a (f1 x * P + f2 x) = c
    have hd' : d = ((a / P : Nat) : Int) - wsum ws x % (P : Int) := by
      rw [← hd, ← n1]
      show ((a / P : Nat) : Int) - (((f1 x * P + f2 x) / P : Nat) : Int) = _
      rw [s1]
    have hc' : c = (((a % P : Nat) : Int) - wsum ws2 x % (P : Int) - x2 * d) * m' := by
      rw [← hc, ← n2, ← hd]
      show (((a % P : Nat) : Int) - (((f1 x * P + f2 x) % P : Nat) : Int) - x2 * dd a (f1 x * P + f2 x)) * m' = _
      rw [s2]
    have d1 := Int.mul_ediv_add_emod (wsum ws x) (P : Int)
    have d2 := Int.mul_ediv_add_emod (wsum ws2 x) (P : Int)
    have ea : a / P * P + a % P = a := by
      rw [Nat.mul_comm]
      exact Nat.div_add_mod a P
    obtain ⟨u, hu⟩ : ∃ u, a / P = u := ⟨_, rfl⟩
    obtain ⟨v, hv⟩ : ∃ v, a % P = v := ⟨_, rfl⟩
    rw [hu] at hd' a1
    rw [hv] at hc' a2
    rw [hu, hv] at ea
    have v1 : wsum ws (shiftL ns x (vec2 ns.length i (d - c * y) j c) 1) % (P : Int) = (u : Int) := by
      rw [F.shift sx.len (vec2_len _ _ _ _ _), wsum_vec2 F.len li lj hi hy]
      have e : wsum ws x + (1 * (d - c * y) + y * c) = (u : Int) + (P : Int) * (wsum ws x / (P : Int)) := by
        rw [hd']
        grind
      rw [e, Int.add_mul_emod_self_left, Int.emod_eq_of_lt (by omega) (by omega)]
    have v2 : wsum ws2 (shiftL ns x (vec2 ns.length i (d - c * y) j c) 1) % (P : Int) = (v : Int) := by
      rw [F2.shift sx.len (vec2_len _ _ _ _ _), wsum_vec2 F2.len li lj h2 hy2]
      have em : (y2 - y * x2) * m' = 1 + (P : Int) * ((y2 - y * x2) * m' / (P : Int)) := by
        have := Int.mul_ediv_add_emod ((y2 - y * x2) * m') (P : Int)
        omega
      generalize (y2 - y * x2) * m' / (P : Int) = t at em
      have e : wsum ws2 x + (x2 * (d - c * y) + y2 * c) = (v : Int) + (P : Int) * (wsum ws2 x / (P : Int) + ((v : Int) - wsum ws2 x % (P : Int) - x2 * d) * t) := by
        have e1 : x2 * (d - c * y) + y2 * c = x2 * d + ((v : Int) - wsum ws2 x % (P : Int) - x2 * d) * ((y2 - y * x2) * m') := by
          rw [hc']
          grind
        rw [e1, em]
        grind
      rw [e, Int.add_mul_emod_self_left, Int.emod_eq_of_lt (by omega) (by omega)]
    have w1 : f1 (shiftL ns x (vec2 ns.length i (d - c * y) j c) 1) = u := by
      show (wsum ws _ % (P : Int)).toNat = u
      rw [v1]
      rfl
    have w2 : f2 (shiftL ns x (vec2 ns.length i (d - c * y) j c) 1) = v := by
      show (wsum ws2 _ % (P : Int)).toNat = v
      rw [v2]
      rfl
    show f1 (shiftL ns x (vec2 ns.length i (d - c * y) j c) 1) * P + f2 (shiftL ns x (vec2 ns.length i (d - c * y) j c) 1) = a
    rw [w1, w2, ea]) (k * P + k2) (by
    have : k * P + P ≤ P * P := by
      rw [← Nat.succ_mul]
      exact Nat.mul_le_mul_right P (by omega)
    omega)
  rw [← allS_len one, ← key, Int.natCast_mul, Int.natCast_mul, Int.mul_assoc]
  congr 2
  rw [cls_nat p0, List.filter_filter]
  refine congrArg List.length (List.filter_congr fun x hx => ?_)
  rw [Bool.eq_iff_iff]
  simp only [Bool.and_eq_true, decide_eq_true_eq]
  have h1 := b1 x
  have h2 := b2 x
  have n2 : (f2 x : Int) = wsum ws2 x % (P : Int) := Int.toNat_of_nonneg (Int.emod_nonneg _ (by omega))
  show (wsum ws2 x % (P : Int) = (k2 : Int) ∧ f1 x = k) ↔ f1 x * P + f2 x = k * P + k2
  rw [← n2]
  constructor
  · rintro ⟨u, v⟩
    rw [v]
    omega
  · intro u
    have u1 := congrArg (· / P) u
    have u2 := congrArg (· % P) u
    simp only [(split (f1 x) (f2 x) h2).1, (split k k2 (by omega)).1, (split (f1 x) (f2 x) h2).2, (split k k2 (by omega)).2] at u1 u2
    exact ⟨by rw [u2], u1⟩

theorem emodd (a m : Int) : m ∣ a % m - a := ⟨-(a / m), by
  have := Int.mul_ediv_add_emod a m
  grind⟩
theorem wsum_mulmod {p c : Int} : ∀ {ws xs : List Int}, p ∣ wsum (ws.map fun w => c * w % p) xs - c * wsum ws xs
  | [], _ => by
    show p ∣ wsum [] _ - c * wsum [] _
    simp [wsum]
  | _ :: _, [] => by simp [wsum]
  | w :: ws, x :: xs => by
    rw [List.map_cons, wsum_cons, wsum_cons]
    have ih := wsum_mulmod (p := p) (c := c) (ws := ws) (xs := xs)
    have d := emodd (c * w) p
    have d2 : p ∣ (c * w % p - c * w) * x := Int.dvd_mul_of_dvd_left d
    refine (congrArg (p ∣ ·) ?_).mp (Int.dvd_add d2 ih)
    grind
theorem emod_of_dvd {a b p : Int} (h : p ∣ a - b) : a % p = b % p := Int.emod_eq_emod_iff_emod_sub_eq_zero.mpr (Int.emod_eq_zero_of_dvd h)
/-- every row of weights is a multiple of one that begins with 1 -/
theorem cls_norm {ns s ws : List Int} {N p r : Int} (L : LeastOdd N p) (h : ws ∈ allS (chL p ns)) (nz : ∃ w ∈ ws, w ≠ 0) (r0 : 0 ≤ r) (r1 : r < p) (off : r ≠ wsum ws s % p) :
    ∃ ws2 r2, ws2 ∈ leadsL ns p ∧ 0 ≤ r2 ∧ r2 < p ∧ r2 ≠ wsum ws2 s % p ∧ clsL ns p ws r = clsL ns p ws2 r2 := by
  have p3 := L.three
  have p0 : 0 < p := by omega
  have F := FitW.of p0 h
  obtain ⟨j, x, hx, x0, hz⟩ := first_nz nz
  have hxr := F.w0 x (List.mem_of_getElem? hx)
  obtain ⟨y, hy⟩ := inv_of L (x := x) (by rw [Int.emod_eq_of_lt hxr.1 hxr.2]; exact x0)
  have iff : ∀ z r, 0 ≤ r → r < p → (wsum ws z % p = r ↔ wsum (ws.map fun w => y * w % p) z % p = y * r % p) := fun z r r0 r1 => by
    have m1 := emod_of_dvd (wsum_mulmod (p := p) (c := y) (ws := ws) (xs := z))
    rw [m1]
    constructor
    · intro e
      rw [← e, Int.mul_emod y (wsum ws z % p), Int.emod_emod, ← Int.mul_emod]
    · intro e
      have e2 : x * (y * wsum ws z) % p = x * (y * r) % p := by rw [Int.mul_emod, e, ← Int.mul_emod]
      have e3 : ∀ t, x * (y * t) % p = t % p := fun t => by
        rw [← Int.mul_assoc, Int.mul_emod, hy, Int.one_mul, Int.emod_emod]
      rw [e3, e3, Int.emod_eq_of_lt r0 r1] at e2
      exact e2
  refine ⟨ws.map fun w => y * w % p, y * r % p, List.mem_filter.mpr ⟨mem_allS.mpr ?_, lead_of (j := j) ?_ ?_⟩, Int.emod_nonneg _ (by omega), Int.emod_lt_of_pos _ p0, fun z => ?_, ?_⟩
  · have := mem_allS.mp h
    clear h nz off F hx x0 hz hxr iff
    induction ns generalizing ws with
    | nil => cases ws with
      | nil => exact True.intro
      | cons _ _ => cases this
    | cons n ns ih => cases ws with
      | nil => cases this
      | cons w ws =>
        obtain ⟨h1, h2⟩ : (0 ≤ w ∧ w < if n % p = 0 then p else 1) ∧ SeatOk (chL p ns) ws := this
        refine ⟨⟨Int.emod_nonneg _ (by omega), ?_⟩, ih h2⟩
        show y * w % p < if n % p = 0 then p else 1
        by_cases c : n % p = 0
        · rw [if_pos c]
          exact Int.emod_lt_of_pos _ p0
        · rw [if_neg c] at h1 ⊢
          obtain rfl : w = 0 := by omega
          simp
  · rw [List.getElem?_map, hx]
    show some (y * x % p) = some 1
    rw [Int.mul_comm, hy]
  · intro k hk
    rw [List.getElem?_map, hz k hk]
    simp
  · refine off ?_
    exact ((iff s r r0 r1).mpr z.symm).symm
  · unfold clsL
    exact List.filter_congr fun z _ => decide_eq_decide.mpr (iff z r r0 r1)
theorem lead_mem {ns ws : List Int} {p : Int} (h : ws ∈ leadsL ns p) : ws ∈ allS (chL p ns) ∧ leadB ws = true := List.mem_filter.mp h
/-- two rows that begin with 1 are no multiples -/
theorem lead_two {ns ws ws2 : List Int} {N p : Int} (L : LeastOdd N p) (h : ws ∈ leadsL ns p) (h2 : ws2 ∈ leadsL ns p) (ne : ws ≠ ws2) : ∃ (i j : Nat) (y x2 y2 : Int), ws[i]? = some 1 ∧ ws[j]? = some y ∧ ws2[i]? = some x2 ∧ ws2[j]? = some y2 ∧ (y2 - y * x2) % p ≠ 0 := by
  have p3 := L.three
  have F := FitW.of (ns := ns) (show 0 < p by omega) (lead_mem h).1
  have F2 := FitW.of (ns := ns) (show 0 < p by omega) (lead_mem h2).1
  obtain ⟨i, hi, h1, hz⟩ := lead_first (lead_mem h).2
  obtain ⟨i2, hi2, h12, hz2⟩ := lead_first (lead_mem h2).2
  have ll : ws2.length = ws.length := by rw [F.len, F2.len]
  refine Classical.byContradiction fun no => ?_
  have all : ∀ (j : Nat) (y x2 y2 : Int), ws[j]? = some y → ws2[i]? = some x2 → ws2[j]? = some y2 → (y2 - y * x2) % p = 0 := fun j y x2 y2 a b c => Classical.byContradiction fun z => no ⟨i, j, y, x2, y2, h1, a, b, c, z⟩
  obtain ⟨x2, hx2⟩ : ∃ x2, ws2[i]? = some x2 := ⟨_, List.getElem?_eq_getElem (by omega)⟩
  have small : ∀ a, 0 ≤ a ∧ a < p → a % p = 0 → a = 0 := fun a b c => by rw [Int.emod_eq_of_lt b.1 b.2] at c; exact c
  have before : ∀ k, k < i → ws2[k]? = some 0 := fun k hk => by
    obtain ⟨y2, hy2⟩ : ∃ y2, ws2[k]? = some y2 := ⟨_, List.getElem?_eq_getElem (by omega)⟩
    have := all k 0 x2 y2 (hz k hk) hx2 hy2
    rw [Int.zero_mul, Int.sub_zero] at this
    rw [hy2, small y2 (F2.w0 y2 (List.mem_of_getElem? hy2)) this]
  have ii : i ≤ i2 := Classical.byContradiction fun c => by
    have := before i2 (by omega)
    rw [h12] at this
    cases this
  by_cases e : i2 = i
  · subst e
    obtain rfl : x2 = 1 := Option.some.inj (hx2.symm.trans h12)
    refine ne (List.ext_getElem? fun k => ?_)
    by_cases hk : k < ws.length
    · obtain ⟨a, ha⟩ : ∃ a, ws[k]? = some a := ⟨_, List.getElem?_eq_getElem hk⟩
      obtain ⟨b, hb⟩ : ∃ b, ws2[k]? = some b := ⟨_, List.getElem?_eq_getElem (by omega)⟩
      have := all k a 1 b ha hx2 hb
      rw [Int.mul_one] at this
      have ra := F.w0 a (List.mem_of_getElem? ha)
      have rb := F2.w0 b (List.mem_of_getElem? hb)
      have : a = b := by
        have e1 : b % p = a % p := Int.emod_eq_emod_iff_emod_sub_eq_zero.mpr this
        rw [Int.emod_eq_of_lt ra.1 ra.2, Int.emod_eq_of_lt rb.1 rb.2] at e1
        exact e1.symm
      rw [ha, hb, this]
    · rw [List.getElem?_eq_none (by omega), List.getElem?_eq_none (by omega)]
  · obtain rfl : x2 = 0 := Option.some.inj (hx2.symm.trans (hz2 i (by omega)))
    obtain ⟨y, hy⟩ : ∃ y, ws[i2]? = some y := ⟨_, List.getElem?_eq_getElem (by omega)⟩
    have := all i2 y 0 1 hy hx2 h12
    rw [Int.mul_zero, Int.sub_zero, Int.emod_eq_of_lt (by omega) (by omega)] at this
    omega
theorem mem_cls {ns ws x : List Int} {p r : Int} : x ∈ clsL ns p ws r ↔ x ∈ allS ns ∧ wsum ws x % p = r := by
  unfold clsL
  rw [List.mem_filter, decide_eq_true_iff]
/-- the classes of two rows share N / p / p seats -/
theorem cls_share {ns ws ws2 : List Int} {N p r r2 : Int} (one : ∀ n ∈ ns, 1 ≤ n) (L : LeastOdd N p) (h : ws ∈ leadsL ns p) (h2 : ws2 ∈ leadsL ns p) (ne : ws ≠ ws2) (r0 : 0 ≤ r) (r1 : r < p) (q0 : 0 ≤ r2) (q1 : r2 < p) : ((((clsL ns p ws r).filter fun x => decide (x ∈ clsL ns p ws2 r2)).length : Nat) : Int) * p * p = prodL ns := by
  have p3 := L.three
  obtain ⟨i, j, y, x2, y2, a1, a2, a3, a4, a5⟩ := lead_two L h h2 ne
  rw [← pair_exact one L (FitW.of (by omega) (lead_mem h).1) (FitW.of (by omega) (lead_mem h2).1) a1 a2 a3 a4 a5 r0 r1 q0 q1]
  congr 4
  refine List.filter_congr fun x hx => decide_eq_decide.mpr ?_
  rw [mem_cls]
  exact ⟨fun z => z.2, fun z => ⟨(mem_cls.mp hx).1, z⟩⟩
theorem cls_size {ns ws : List Int} {N p r : Int} (one : ∀ n ∈ ns, 1 ≤ n) (L : LeastOdd N p) (h : ws ∈ leadsL ns p) (r0 : 0 ≤ r) (r1 : r < p) : ((clsL ns p ws r).length : Int) * p = prodL ns := by
  have p3 := L.three
  obtain ⟨j, _, hj, _⟩ := lead_first (lead_mem h).2
  exact cls_exact one (by omega) (FitW.of (by omega) (lead_mem h).1) hj r0 r1
theorem cls_inj {ns ws ws2 : List Int} {N p r r2 : Int} (one : ∀ n ∈ ns, 1 ≤ n) (L : LeastOdd N p) (h : ws ∈ leadsL ns p) (h2 : ws2 ∈ leadsL ns p) (r0 : 0 ≤ r) (r1 : r < p) (q0 : 0 ≤ r2) (q1 : r2 < p) (e : clsL ns p ws r = clsL ns p ws2 r2) : ws = ws2 ∧ r = r2 := by
  have p3 := L.three
  have pos := prodL_pos one
  have sz := cls_size one L h r0 r1
  have e1 : ws = ws2 := Classical.byContradiction fun ne => by
    have sh := cls_share one L h h2 ne r0 r1 q0 q1
    rw [← e, List.filter_eq_self.mpr (fun x hx => decide_eq_true hx), sz] at sh
    have : prodL ns * 3 ≤ prodL ns * p := Int.mul_le_mul_of_nonneg_left p3 (by omega)
    omega
  refine ⟨e1, ?_⟩
  cases hc : clsL ns p ws r with
  | nil =>
    rw [hc] at sz
    simp at sz
    omega
  | cons x l =>
    have m1 : x ∈ clsL ns p ws r := by rw [hc]; exact List.mem_cons_self
    have m2 : x ∈ clsL ns p ws2 r2 := by rw [← e]; exact m1
    have h1 := (mem_cls.mp m1).2
    have h2 := (mem_cls.mp m2).2
    rw [e1] at h1
    exact h1.symm.trans h2
theorem mem_avs76 {ns s : List Int} {p : Int} {d : List (List Int)} (p0 : 0 < p) : d ∈ avsL ns s p ↔ ∃ ws r, ws ∈ leadsL ns p ∧ 0 ≤ r ∧ r < p ∧ r ≠ wsum ws s % p ∧ d = clsL ns p ws r := by
  unfold avsL avR
  simp only [List.mem_flatMap, List.mem_map, List.mem_filter, List.mem_range, decide_eq_true_eq]
  constructor
  · rintro ⟨ws, hw, k, ⟨hk, hn⟩, rfl⟩
    exact ⟨ws, k, hw, by omega, by omega, hn, rfl⟩
  · rintro ⟨ws, r, hw, r0, r1, hn, rfl⟩
    exact ⟨ws, hw, r.toNat, ⟨by omega, by rw [Int.toNat_of_nonneg r0]; exact hn⟩, by rw [Int.toNat_of_nonneg r0]⟩
theorem avs_nodup {ns s : List Int} {N p : Int} (one : ∀ n ∈ ns, 1 ≤ n) (L : LeastOdd N p) : (avsL ns s p).Nodup := by
  have p3 := L.three
  unfold avsL
  rw [List.Nodup, List.pairwise_flatMap]
  constructor
  · intro ws hw
    unfold avR
    rw [List.pairwise_map]
    refine List.Pairwise.imp_of_mem ?_ ((List.pairwise_lt_range (n := p.toNat)).filter _)
    intro a b ha hb hab e
    have h1 := List.mem_range.mp (List.mem_filter.mp ha).1
    have h2 := List.mem_range.mp (List.mem_filter.mp hb).1
    have := (cls_inj one L hw hw (by omega) (by omega) (by omega) (by omega) e).2
    omega
  · refine List.Pairwise.imp_of_mem ?_ ((allS_nodup (chL p ns)).filter _)
    intro a b ha hb hab x hx y hy e
    unfold avR at hx hy
    obtain ⟨k, hk, rfl⟩ := List.mem_map.mp hx
    obtain ⟨l, hl, rfl⟩ := List.mem_map.mp hy
    have h1 := List.mem_range.mp (List.mem_filter.mp hk).1
    have h2 := List.mem_range.mp (List.mem_filter.mp hl).1
    exact hab (cls_inj one L ha hb (by omega) (by omega) (by omega) (by omega) e).1

/-! ### how many -/
def zerB (ws : List Int) : Bool := decide (∀ w ∈ ws, w = 0)
theorem lead_snoc_nz : ∀ {hs : List Int} {i : Int}, (∃ w ∈ hs, w ≠ 0) → leadB (hs ++ [i]) = leadB hs := fun {hs i} ⟨w, hw, w0⟩ => by
  unfold leadB
  rw [List.filter_append]
  cases e : hs.filter fun w => decide (w ≠ 0) with
  | nil =>
    have := List.filter_eq_nil_iff.mp e w hw
    simp at this
    exact absurd this w0
  | cons a l => rfl
theorem lead_snoc_z {hs : List Int} {i : Int} (h : ∀ w ∈ hs, w = 0) : leadB (hs ++ [i]) = decide (i = 1) := by
  unfold leadB
  rw [List.filter_append, List.filter_eq_nil_iff.mpr (fun w hw => by simp [h w hw]), List.nil_append]
  by_cases c : i = 0
  · subst c
    rfl
  · rw [List.filter_cons_of_pos (by simpa using c)]
    simp
theorem count_const {α : Type} {f : α → Bool} {b : Bool} : ∀ {l : List α}, (∀ a ∈ l, f a = b) → l.countP f = if b = true then l.length else 0
  | [], _ => by cases b <;> rfl
  | a :: l, h => by
    rw [List.countP_cons, count_const fun x hx => h x (List.mem_cons_of_mem _ hx), h a List.mem_cons_self]
    cases b <;> simp
theorem count_one : ∀ n : Nat, (List.range n).countP (fun (i : Nat) => decide ((i : Int) = 1)) = if 2 ≤ n then 1 else 0
  | 0 => rfl
  | n + 1 => by
    rw [List.range_succ, List.countP_append, count_one n, List.countP_cons, List.countP_nil]
    by_cases c : n = 1
    · subst c
      rfl
    · have : ¬ (n : Int) = 1 := by omega
      simp only [this, decide_false, Bool.false_eq_true, if_false]
      by_cases c2 : 2 ≤ n
      · rw [if_pos c2, if_pos (by omega)]
      · rw [if_neg c2, if_neg (by omega)]
theorem count_zero : ∀ n : Nat, (List.range n).countP (fun (i : Nat) => decide ((i : Int) = 0)) = if 1 ≤ n then 1 else 0
  | 0 => rfl
  | n + 1 => by
    rw [List.range_succ, List.countP_append, count_zero n, List.countP_cons, List.countP_nil]
    by_cases c : n = 0
    · subst c
      rfl
    · have : ¬ (n : Int) = 0 := by omega
      simp only [this, decide_false, Bool.false_eq_true, if_false]
      rw [if_pos (by omega), if_pos (by omega)]
theorem cross_lead {n : Nat} (n1 : 1 ≤ n) : ∀ hss : List (List Int), (crossS hss (n : Int)).countP leadB = hss.countP leadB * n + (if 2 ≤ n then hss.countP zerB else 0)
  | [] => by simp [crossS]
  | hs :: hss => by
    have ih := cross_lead n1 hss
    unfold crossS at ih ⊢
    rw [List.flatMap_cons, List.countP_append, ih, List.countP_map, List.countP_cons, List.countP_cons]
    by_cases z : ∀ w ∈ hs, w = 0
    · have e1 : leadB hs = false := by
        cases e : leadB hs with
        | false => rfl
        | true =>
          obtain ⟨w, hw, w0⟩ := lead_nz e
          exact absurd (z w hw) w0
      have e2 : zerB hs = true := decide_eq_true z
      rw [e1, e2]
      have : ((List.range (n : Int).toNat).countP (leadB ∘ fun (i : Nat) => hs ++ [(i : Int)])) = (List.range n).countP (fun (i : Nat) => decide ((i : Int) = 1)) := by
        show (List.range n).countP _ = _
        congr 1
        funext i
        exact lead_snoc_z z
      rw [this, count_one]
      by_cases c : 2 ≤ n
      · simp only [if_pos c, if_true]
        simp
        omega
      · simp only [if_neg c]
        simp
    · have z' : ∃ w ∈ hs, w ≠ 0 := by
        refine Classical.byContradiction fun no => z fun w hw => Classical.byContradiction fun c => no ⟨w, hw, c⟩
      have e2 : zerB hs = false := decide_eq_false z
      have e3 : ((List.range (n : Int).toNat).countP (leadB ∘ fun (i : Nat) => hs ++ [(i : Int)])) = if leadB hs = true then n else 0 := by
        have := count_const (f := leadB ∘ fun (i : Nat) => hs ++ [(i : Int)]) (b := leadB hs) (l := List.range (n : Int).toNat) fun i _ => lead_snoc_nz z'
        rw [List.length_range] at this
        exact this
      rw [e2, e3]
      cases leadB hs with
      | true =>
        simp only [if_true]
        rw [Nat.add_mul]
        simp
        omega
      | false => simp
theorem zer_snoc {hs : List Int} {i : Int} : zerB (hs ++ [i]) = (zerB hs && decide (i = 0)) := by
  unfold zerB
  rw [Bool.eq_iff_iff]
  simp only [Bool.and_eq_true, decide_eq_true_eq, List.mem_append, List.mem_singleton]
  constructor
  · intro h
    exact ⟨fun w hw => h w (.inl hw), h i (.inr rfl)⟩
  · rintro ⟨h1, h2⟩ w (hw | rfl)
    · exact h1 w hw
    · exact h2
theorem cross_zer {n : Nat} (n1 : 1 ≤ n) : ∀ hss : List (List Int), (crossS hss (n : Int)).countP zerB = hss.countP zerB
  | [] => by simp [crossS]
  | hs :: hss => by
    have ih := cross_zer n1 hss
    unfold crossS at ih ⊢
    rw [List.flatMap_cons, List.countP_append, ih, List.countP_map, List.countP_cons]
    cases z : zerB hs with
    | true =>
      have : ((List.range (n : Int).toNat).countP (zerB ∘ fun (i : Nat) => hs ++ [(i : Int)])) = (List.range n).countP (fun (i : Nat) => decide ((i : Int) = 0)) := by
        show (List.range n).countP _ = _
        congr 1
        funext i
        show zerB (hs ++ [(i : Int)]) = _
        rw [zer_snoc, z, Bool.true_and]
      rw [this, count_zero, if_pos n1]
      simp
      omega
    | false =>
      rw [count_const (b := false) fun i _ => by
        show zerB (hs ++ [(i : Int)]) = _
        rw [zer_snoc, z, Bool.false_and]]
      simp
theorem fold_lead {P : Nat} (P2 : 2 ≤ P) : ∀ (ms : List Int) (hss : List (List Int)), (∀ m ∈ ms, m = (P : Int) ∨ m = 1) → hss.countP leadB * (P - 1) + hss.countP zerB = hss.length → (ms.foldl crossS hss).countP leadB * (P - 1) + (ms.foldl crossS hss).countP zerB = (ms.foldl crossS hss).length ∧ (ms.foldl crossS hss).countP zerB = hss.countP zerB
  | [], hss, _, h => ⟨h, rfl⟩
  | m :: ms, hss, hm, h => by
    rw [List.foldl_cons]
    have ih := fold_lead P2 ms (crossS hss m) fun x hx => hm x (List.mem_cons_of_mem _ hx)
    obtain ⟨n, n1, rfl, hn⟩ : ∃ n : Nat, 1 ≤ n ∧ m = (n : Int) ∧ (n = P ∨ n = 1) := by
      rcases hm m List.mem_cons_self with e | e
      · exact ⟨P, by omega, e, .inl rfl⟩
      · exact ⟨1, by omega, e, .inr rfl⟩
    have hz := cross_zer n1 hss
    have := ih (by
      rw [cross_lead n1, cross_zer n1, crossS_len]
      show _ = hss.length * n
      rcases hn with rfl | rfl
      · rw [if_pos P2, ← h]
        obtain ⟨q, rfl⟩ : ∃ q, n = q + 1 := ⟨n - 1, by omega⟩
        rw [Nat.add_sub_cancel]
        generalize hss.countP leadB = L
        generalize hss.countP zerB = Z
        grind
      · rw [if_neg (by omega), Nat.mul_one, Nat.add_zero, Nat.mul_one]
        exact h)
    exact ⟨this.1, this.2.trans hz⟩
theorem lead_count {ns : List Int} {p : Int} (p3 : 3 ≤ p) : ((leadsL ns p).length : Int) * (p - 1) + 1 = ((allS (chL p ns)).length : Int) := by
  obtain ⟨P, rfl⟩ : ∃ P : Nat, p = (P : Int) := ⟨p.toNat, by omega⟩
  obtain ⟨h1, h2⟩ := fold_lead (P := P) (by omega) (chL (P : Int) ns) [[]] (fun m hm => by
    unfold chL at hm
    obtain ⟨n, _, rfl⟩ := List.mem_map.mp hm
    by_cases c : n % (P : Int) = 0
    · exact .inl (if_pos c)
    · exact .inr (if_neg c)) (by
    have e1 : List.countP leadB [[]] = 0 := by decide
    have e2 : List.countP zerB [[]] = 1 := by decide
    rw [e1, e2, Nat.zero_mul]
    rfl)
  have e : (leadsL ns (P : Int)).length = (allS (chL (P : Int) ns)).countP leadB := by
    unfold leadsL
    rw [List.countP_eq_length_filter]
  rw [e]
  unfold allS
  rw [← h1, h2]
  show _ = (((_ * (P - 1) + 1 : Nat)) : Int)
  rw [Int.natCast_add, Int.natCast_mul]
  have : ((P - 1 : Nat) : Int) = (P : Int) - 1 := by omega
  rw [this]
  rfl
theorem count_out : ∀ (n : Nat) (q : Nat), q < n → ((List.range n).filter fun (r : Nat) => decide ((r : Int) ≠ (q : Int))).length + 1 = n
  | 0, q, h => absurd h (by omega)
  | n + 1, q, h => by
    rw [List.range_succ, List.filter_append, List.length_append]
    by_cases c : q = n
    · subst c
      rw [List.filter_eq_self.mpr (fun a ha => decide_eq_true (by have := List.mem_range.mp ha; omega)), List.length_range, List.filter_cons_of_neg (by simp)]
      rfl
    · have := count_out n q (by omega)
      rw [List.filter_cons_of_pos (by simp; omega)]
      simp only [List.filter_nil, List.length_singleton]
      omega
theorem avs_count {ns s : List Int} {p : Int} (p3 : 3 ≤ p) : ((avsL ns s p).length : Int) + 1 = ((allS (chL p ns)).length : Int) := by
  rw [← lead_count p3]
  unfold avsL
  rw [List.length_flatMap]
  generalize leadsL ns p = ls
  induction ls with
  | nil => simp
  | cons ws ls ih =>
    rw [List.map_cons, List.sum_cons, List.length_cons]
    have : ((avR ns s p ws p.toNat).length : Int) = p - 1 := by
      unfold avR
      rw [List.length_map]
      have h0 := Int.emod_nonneg (wsum ws s) (show p ≠ 0 by omega)
      have h1 := Int.emod_lt_of_pos (wsum ws s) (show 0 < p by omega)
      have := count_out p.toNat (wsum ws s % p).toNat (by omega)
      rw [Int.toNat_of_nonneg h0] at this
      omega
    rw [Int.natCast_add, Int.natCast_add, this]
    have e : (((ls.length : Nat) : Int) + ((1 : Nat) : Int)) * (p - 1) = (ls.length : Int) * (p - 1) + (p - 1) := by
      rw [Int.add_mul]
      simp
    omega
theorem chprod {p : Int} : ∀ ns : List Int, prodL (chL p ns) = p ^ (ns.filter fun n => decide (n % p = 0)).length
  | [] => by
    show (1 : Int) = p ^ 0
    rw [Int.pow_zero]
  | n :: ns => by
    unfold chL
    rw [List.map_cons, prodL_cons, show prodL (List.map (fun n => if n % p = 0 then p else 1) ns) = prodL (chL p ns) from rfl, chprod ns]
    by_cases c : n % p = 0
    · rw [if_pos c, List.filter_cons_of_pos (by simpa using c), List.length_cons, Int.pow_succ, Int.mul_comm]
    · rw [if_neg c, List.filter_cons_of_neg (by simpa using c), Int.one_mul]
/-! ### the sets that the law looks for -/
def GoodD (ns s : List Int) (p : Int) (d : List (List Int)) : Prop := ∃ ws r, ws ∈ allS (chL p ns) ∧ 0 ≤ r ∧ r < p ∧ r ≠ wsum ws s % p ∧ d = clsL ns p ws r ∧ d.length < (allS ns).length ∧ d ≠ []
theorem good_iff {ns s : List Int} {N p : Int} (one : ∀ n ∈ ns, 1 ≤ n) (L : LeastOdd N p) {d : List (List Int)} : GoodD ns s p d ↔ d ∈ avsL ns s p := by
  have p3 := L.three
  rw [mem_avs76 (by omega)]
  constructor
  · rintro ⟨ws, r, hw, r0, r1, off, rfl, hl, hne⟩
    obtain ⟨ws2, r2, a1, a2, a3, a4, a5⟩ := cls_norm (s := s) L hw (Classical.byContradiction fun no => by
      have z : ∀ w ∈ ws, w = 0 := fun w hw => Classical.byContradiction fun c => no ⟨w, hw, c⟩
      rw [wsum_zero z] at off
      refine hne (List.filter_eq_nil_iff.mpr fun x _ => ?_)
      rw [wsum_zero z]
      simp only [decide_eq_true_eq]
      exact fun e => off e.symm) r0 r1 off
    exact ⟨ws2, r2, a1, a2, a3, a4, a5⟩
  · rintro ⟨ws, r, hw, r0, r1, off, rfl⟩
    have sz := cls_size one L hw r0 r1
    have pos := prodL_pos one
    have al := allS_len one
    refine ⟨ws, r, (lead_mem hw).1, r0, r1, off, rfl, ?_, fun z => ?_⟩
    · refine Classical.byContradiction fun c => ?_
      have : (prodL ns) * 3 ≤ ((clsL ns p ws r).length : Int) * p := Int.mul_le_mul (by omega) p3 (by omega) (by omega)
      omega
    · rw [z] at sz
      simp at sz
      omega
theorem due_perm {ns s : List Int} {N p : Int} (one : ∀ n ∈ ns, 1 ≤ n) (L : LeastOdd N p) {ds : List (List (List Int))} (nod : ds.Nodup) (h : ∀ d, d ∈ ds ↔ GoodD ns s p d) : ds.Perm (avsL ns s p) :=
  (List.perm_ext_iff_of_nodup nod (avs_nodup one L)).mpr fun d => by rw [h, good_iff one L]
/-! ### the least odd prime divides a ring -/
theorem prime_ring {N p : Int} (L : LeastOdd N p) : ∀ {ns : List Int}, p ∣ prodL ns → ∃ n ∈ ns, n % p = 0
  | [], h => by
    have p3 := L.three
    have : p ∣ (1 : Int) := h
    have := Int.le_of_dvd (by decide) this
    omega
  | n :: ns, h => by
    by_cases c : n % p = 0
    · exact ⟨n, List.mem_cons_self, c⟩
    · obtain ⟨y, hy⟩ := inv_of L c
      have h2 : p ∣ prodL ns := by
        rw [prodL_cons] at h
        obtain ⟨k, hk⟩ := h
        have e := Int.mul_ediv_add_emod (n * y) p
        rw [hy] at e
        refine ⟨k * y - (n * y / p) * prodL ns, ?_⟩
        have e1 : prodL ns = (n * y - p * (n * y / p)) * prodL ns := by
          rw [show n * y - p * (n * y / p) = 1 by omega, Int.one_mul]
        rw [Int.mul_sub, ← Int.mul_assoc, ← hk]
        grind
      obtain ⟨m, hm, hd⟩ := prime_ring L h2
      exact ⟨m, List.mem_cons_of_mem _ hm, hd⟩
theorem ring_dvd {d : Int} : ∀ {ns : List Int} {n : Int}, n ∈ ns → n % d = 0 → d ∣ prodL ns
  | m :: ns, n, hn, h => by
    rw [prodL_cons]
    rcases List.mem_cons.mp hn with rfl | hn
    · exact Int.dvd_mul_of_dvd_left (Int.dvd_of_emod_eq_zero h)
    · exact Int.dvd_mul_of_dvd_right (ring_dvd hn h)
theorem oddP_eq {N p : Int} (N1 : 1 ≤ N) (L : LeastOdd N p) : oddP N = some p := by
  cases e : oddP N with
  | none => exact absurd L.dvd (oddP_none N1 e p L.three L.odd)
  | some q =>
    have Q := oddP_some N1 e
    have a := Q.least p L.three L.odd L.dvd
    have b := L.least q Q.three Q.odd Q.dvd
    rw [show q = p by omega]
theorem least_hit {ns : List Int} (one : ∀ n ∈ ns, 1 ≤ n) {i : Nat} {n : Int} (hn : n ∈ ns) (hd : n % (3 + (i : Int) * 2) = 0) (h : ∀ j : Nat, j < i → ∀ n ∈ ns, n % (3 + (j : Int) * 2) ≠ 0) : oddP (prodL ns) = some (3 + (i : Int) * 2) := by
  have pos := prodL_pos one
  have dv := ring_dvd hn hd
  refine oddP_eq (by omega) ⟨by omega, by omega, Int.le_of_dvd (by omega) dv, dv, fun d d3 dodd dd => ?_⟩
  cases e : oddP (prodL ns) with
  | none => exact absurd dd (oddP_none (by omega) e d d3 dodd)
  | some p =>
    have L := oddP_some (by omega) e
    obtain ⟨m, hm, hmp⟩ := prime_ring L L.dvd
    have a := L.three
    have b := L.odd
    have c := L.least d d3 dodd dd
    refine Classical.byContradiction fun no => ?_
    refine h ((p - 3) / 2).toNat (by omega) m hm ?_
    rw [show 3 + ((((p - 3) / 2).toNat : Nat) : Int) * 2 = p by omega]
    exact hmp
theorem least_none {ns : List Int} (one : ∀ n ∈ ns, 1 ≤ n) {mx : Int} (hm : ∀ n ∈ ns, n ≤ mx) (h : ∀ j : Nat, j < ((mx - 1) / 2).toNat → ∀ n ∈ ns, n % (3 + (j : Int) * 2) ≠ 0) : oddP (prodL ns) = none := by
  have pos := prodL_pos one
  cases e : oddP (prodL ns) with
  | none => rfl
  | some p =>
    have L := oddP_some (by omega) e
    obtain ⟨m, hmm, hmp⟩ := prime_ring L L.dvd
    have a := L.three
    have b := L.odd
    have c := hm m hmm
    have m1 := one m hmm
    have d := Int.le_of_dvd (by omega) (Int.dvd_of_emod_eq_zero hmp)
    refine absurd ?_ (h ((p - 3) / 2).toNat (by omega) m hmm)
    rw [show 3 + ((((p - 3) / 2).toNat : Nat) : Int) * 2 = p by omega]
    exact hmp

-- minmax
/-! ### max(t), a tuple of ints -/
section
def rMaxT (K : PySem.W.Frag) : List V → Hp → VK → Prop := fun vs H Q => ∃ (a : Addr) (ns : List Int), vs = [V.ref a] ∧ SqT K H a (ns.map V.int) ∧ 0 < ns.length ∧ ∀ m, m ∈ ns → (∀ y, y ∈ ns → y ≤ m) → Q (.int m) H
theorem max_fold : ∀ (ns : List Int) (n : Int), ns.foldl max n ∈ n :: ns ∧ ∀ y ∈ n :: ns, y ≤ ns.foldl max n
  | [], n => ⟨List.mem_cons_self, fun y hy => by
    rw [List.mem_singleton.mp hy]
    exact Int.le_refl _⟩
  | m :: ns, n => by
    obtain ⟨h1, h2⟩ := max_fold ns (max n m)
    rw [List.foldl_cons]
    refine ⟨?_, fun y hy => ?_⟩
    · rcases List.mem_cons.mp h1 with h | h
      · rw [h]
        by_cases c : n ≤ m
        · rw [show max n m = m by omega]
          exact List.mem_cons_of_mem _ List.mem_cons_self
        · rw [show max n m = n by omega]
          exact List.mem_cons_self
      · exact List.mem_cons_of_mem _ (List.mem_cons_of_mem _ h)
    · have h0 := h2 (max n m) List.mem_cons_self
      rcases List.mem_cons.mp hy with rfl | hy
      · omega
      · rcases List.mem_cons.mp hy with rfl | hy
        · omega
        · exact h2 y (List.mem_cons_of_mem _ hy)
theorem cr_maxTI {X : Cx} (hc : X.calm = true) (hu : X.A.units + 65 < cLine) : CallR X (.builtin "max") (rMaxT X.K) := by
  intro pins s σ H vs us Q I r h
  obtain ⟨a, ns, rfl, hs, hne, q⟩ := h
  obtain ⟨its, rv, hl, hz⟩ := I.tuple hs
  rw [Vals.ref1 r]
  cases ns with
  | nil => simp at hne
  | cons n ns =>
    have hr := rv.ints.reads s.heap
    refine PySem.W.max_tuple_data (x := .int n) (xs := ns.map .int) (I.ok.hd hc) hl hr (PySem.W.alikeAll_datum (α := Int) (n :: ns)) ?_ fun i v h' tk bs hi rr hk => ?_
    · have : PyData.depthAll (.int n :: ns.map .int) = 0 := by
        clear hs hne q rv hr
        have key : ∀ l : List Int, PyData.depthAll (l.map .int) = 0 := fun l => by
          induction l with
          | nil => rfl
          | cons m l ih =>
            rw [List.map_cons]
            simp only [PyData.depthAll, PyData.depth, ih]
            rfl
        exact key (n :: ns)
      rw [this]
      omega
    · rw [PySem.W.maxD_ints] at rr
      obtain ⟨h1, h2⟩ := max_fold ns n
      cases rr with
      | int _ t => exact ⟨.int _, H, I.kept hk, ⟨_, rfl⟩, q _ h1 h2⟩
end

section
variable {P : Program} {w : World} {K : PySem.W.Frag} {mg : Str → Option Value} {base : Heap}
def sp_law_least_prime : Sp := fun vs H Q _ => ∃ (l : Addr) (ns : List Int), vs = [.ref l] ∧ H l = some (.tup (ns.map V.int)) ∧ SzOk ns ∧ prodL ns ≤ 300 ∧ ∀ H2, Ex H H2 → Q (optI (oddP (prodL ns))) H2
theorem ok_law_least_prime (T : TX K mg) : FnOk P w K mg base CX0 1 T.f_law_least_prime T.fd_law_least_prime ["_law_rings_here"] sp_law_least_prime := by
  refine T.F_law_least_prime.ok sc_law_least_prime (fun vs H Q E h => ?_) (fun cdv A outer s H vs Q E hr h => ?_)
  · obtain ⟨l, ns, rfl, _⟩ := h
    rfl
  · obtain ⟨l, ns, rfl, hl, ok, pr, k⟩ := h
    refine ⟨_, (pss_cons (ps_for PassesOwn.never rfl (pi_range3 rfl T.z_range (pa_cons pe_int (pa_cons (pe_op op_add (pe_callB (cr_maxTI rfl (u65 hr)) (by rfl) T.z_max (by decide +kernel) (pa_cons (pv 0) pa_nil)) pe_int) (pa_cons pe_int pa_nil)))) (pg_name (i := 1) sc_law_least_prime.nd rfl (Or.inr rfl)) (pss_one (ps_if (pt_cmpR (r := rNeD K) (op_neD hr.units) (pe_lc (own := [("_law_size", 2)]) (g := (gName 2)) rfl sc_law_least_prime.nd (pi_tup (pv 0)) (blkOk_by (N := N_law_least_prime) (sc := defScope s_law_least_prime) (by decide +kernel)) (fun _ _ _ _ _ => (pg_name (i := 2) sc_law_least_prime.nd rfl (Or.inl rfl))) (fun _ _ _ _ _ => (pts_one (pt_cmpR op_eq (pe_op op_mod (pv 2) (pv 1)) pe_int (nomark _)))) (fun _ _ _ _ _ => (pv 2))) (pe_lst pa_nil) (nomark _)) (pss_one (ps_ret (pv 1))) pss_nil))) (pss_one (ps_ret pe_non))), ?_⟩
    have l4 := ok.le
    have le300 : ∀ n ∈ ns, n ≤ 300 := fun n hn => by
      have := mul_le_of_mem ok.one hn
      omega
    refine ⟨_, rfl, l, ns, rfl, SqT.of hl, List.length_pos_iff.mpr ok.pos, fun m hm hmax => ?_⟩
    have m1 := ok.one m hm
    have m300 := le300 m hm
    refine ⟨_, _, rfl, rfl, 3, m + 1, 2, _, rfl, rgc_odd (by omega) m300, ?_⟩
    refine for_it walk_rangeC (fun i σ Hx => (∃ y1 y2 : Option V, σ = [some (.ref l), y1, y2]) ∧ Ex H Hx ∧ ∀ j : Nat, j < i → ∀ n ∈ ns, n % (3 + (j : Int) * 2) ≠ 0) ⟨⟨_, _, rfl⟩, exr, fun j hj => absurd hj (by omega)⟩ (fun _ _ _ _ _ => True.intro) ?_ ?_
    · rintro i x σ _ Hx hi ⟨⟨y1, y2, rfl⟩, ex, hno⟩ ⟨rfl, rfl⟩
      dsimp only [gName]
      refine ⟨_, rfl, l, rfl, ⟨_, SqT.of (ex _ _ hl)⟩, fun D hD => ?_⟩
      refine lc_filt (walk_tup (xs := ns.map V.int)) ns (fun n => decide (n % (3 + (i : Int) * 2) = 0)) V.int (by simp) (by rw [List.length_map]; omega) hD (fun _ e => SqT.of (e _ _ (ex _ _ hl))) ?_ ?_
      · rintro j x a Ha _ R S ha ea ⟨rfl, hx⟩ kR kS
        rw [List.getElem?_map, ha] at hx
        obtain rfl := Option.some.inj hx
        refine ⟨rfl, ?_⟩
        (repeat (first | refine ⟨rfl, ?_⟩ | refine ⟨_, rfl, ?_⟩ | refine ⟨_, _, rfl, rfl, ?_⟩ | refine ⟨_, _, rfl, ?_⟩ | refine ⟨slen rfl, ?_⟩ | refine ⟨⟨by decide, by decide +kernel⟩, ?_⟩ | refine ⟨⟨by decide, by decide, by decide⟩, ?_⟩ | refine ⟨(by show (0 : Int) < _; first | decide | assumption | omega), ?_⟩ | refine ⟨mul_ok (by first | exact .inr (by decide) | exact .inl (by decide)), ?_⟩))
        by_cases c : a % (3 + (i : Int) * 2) = 0
        · exact itt (decide_eq_true (congrArg V.int c)) ⟨_, rfl, kR _ _ exr (decide_eq_true c) rfl⟩
        · exact itf (decide_eq_false fun z => c (V.int.inj z)) (kS _ exr (decide_eq_false c))
      intro H1 e1 hD1
      refine ⟨slen rfl, ?_⟩
      (intro b nb; generalize hGb : upd _ b _ = H2; have eH2 := exG hGb nb; have hb := atG hGb; clear hGb)
      have E2 := ext ex (ext e1 eH2)
      refine ⟨iL (ns.filter fun n => decide (n % (3 + (i : Int) * 2) = 0)), iL [], dp_ilist (eH2 _ _ hD1), dp_ilist hb, (sh_ilist (n := 59) _).ok, (sh_ilist (n := 59) _).ok, _, rfl, ?_⟩
      cases hf : ns.filter (fun n => decide (n % (3 + (i : Int) * 2) = 0)) with
      | nil =>
        refine itf (by decide) ⟨⟨_, _, rfl⟩, E2, fun j hj n hn => ?_⟩
        by_cases c : j = i
        · subst c
          have := List.filter_eq_nil_iff.mp hf n hn
          simpa using this
        · exact hno j (by omega) n hn
      | cons a t =>
        have ha : a ∈ ns.filter (fun n => decide (n % (3 + (i : Int) * 2) = 0)) := by rw [hf]; exact List.mem_cons_self
        obtain ⟨h1, h2⟩ := List.mem_filter.mp ha
        refine itt (by rfl) ?_
        have := k H2 E2
        rw [least_hit ok.one h1 (of_decide_eq_true h2) hno] at this
        exact ⟨_, rfl, this⟩
    rintro σ Hx ⟨⟨y1, y2, rfl⟩, ex, hno⟩
    have := k Hx ex
    rw [least_none ok.one hmax hno] at this
    exact this
end

theorem yvi2 {xs : List V} {ys : List Int} {i : Nat} {H H2 : Hp} {x : V} (h : CZ.YRow [xs, ys.map V.int] i H x H2) : ∃ (Ta : Addr) (v : V) (b : Int), x = .ref Ta ∧ H Ta = none ∧ H2 = upd H Ta (.tup [v, .int b]) ∧ xs[i]? = some v ∧ ys[i]? = some b := by
  obtain ⟨Ta, a, b, rfl, hT, rfl, r1, r2⟩ := yrow2 h
  obtain ⟨q, hq, rfl⟩ := map_get r2
  exact ⟨Ta, a, q, rfl, hT, rfl, r1, hq⟩
theorem any_encR (ds : List (List (List Int))) (d : List (List Int)) : ((ds.map encR).any fun z => PyData.eqv z (encR d)) = decide (d ∈ ds) := by
  rw [Bool.eq_iff_iff, List.any_eq_true, decide_eq_true_iff]
  constructor
  · rintro ⟨z, hz, e⟩
    obtain ⟨x, hx, rfl⟩ := List.mem_map.mp hz
    have : PyData.eqv (.list (x.map iT)) (.list (d.map iT)) = true := e
    rw [eqv_rows] at this
    rw [← of_decide_eq_true this]
    exact hx
  · intro h
    refine ⟨_, List.mem_map_of_mem h, ?_⟩
    show PyData.eqv (.list (d.map iT)) (.list (d.map iT)) = true
    rw [eqv_rows]
    exact decide_eq_true rfl
theorem sh_encR {n : Nat} (d : List (List Int)) : Sh (n + 2) (encR d) := sh_rows d
theorem notin_sets {K : PySem.W.Frag} {H : Hp} {B : Addr → Prop} {r g : Addr} {d : List (List Int)} {zs : List V} {ds : List (List (List Int))} {Q : VK} (hx : RowsAt H r d) (hg : H g = some (.lst zs)) (rr : SetR B H zs ds) (k : Q (.bl (!decide (d ∈ ds))) H) : rNotInD K (.ref r) (.ref g) H Q :=
  ⟨encR d, ds.map encR, dp_rowsAt hx, .lst (SqL.of hg) (dp_setR rr), (sh_encR (n := 58) _).ok, (sh_list (n := 59) fun e he => by
    obtain ⟨x, _, rfl⟩ := List.mem_map.mp he
    exact sh_encR (n := 57) x).ok, by rw [any_encR]; exact k⟩
/-- the law's loop over weights and residues -/
structure DueI (ns s : List Int) (p : Int) (i : Nat) (j : Int) (ds : List (List (List Int))) : Prop where
  nod : ds.Nodup
  good : ∀ d ∈ ds, GoodD ns s p d
  all : ∀ (k : Nat) (ws : List Int), (allS (chL p ns))[k]? = some ws → ∀ r, 0 ≤ r → r < p → (k < i ∨ (k = i ∧ r < j)) → r ≠ wsum ws s % p → (clsL ns p ws r).length < (allS ns).length → clsL ns p ws r ≠ [] → clsL ns p ws r ∈ ds
theorem DueI.skip {ns s : List Int} {p : Int} {i : Nat} {j : Int} {ds : List (List (List Int))} (h : DueI ns s p i j ds) {ws : List Int} (hw : (allS (chL p ns))[i]? = some ws) (no : j ≠ wsum ws s % p → (clsL ns p ws j).length < (allS ns).length → clsL ns p ws j ≠ [] → clsL ns p ws j ∈ ds) : DueI ns s p i (j + 1) ds :=
  ⟨h.nod, h.good, fun k w hk r r0 r1 hr a b c => by
    by_cases e : k = i ∧ r = j
    · obtain ⟨rfl, rfl⟩ := e
      obtain rfl := Option.some.inj (hw.symm.trans hk)
      exact no a b c
    · exact h.all k w hk r r0 r1 (by omega) a b c⟩
theorem DueI.add {ns s : List Int} {p : Int} {i : Nat} {j : Int} {ds : List (List (List Int))} (h : DueI ns s p i j ds) {ws : List Int} (hw : (allS (chL p ns))[i]? = some ws) (j0 : 0 ≤ j) (j1 : j < p) (a : j ≠ wsum ws s % p) (b : (clsL ns p ws j).length < (allS ns).length) (c : clsL ns p ws j ≠ []) (d : clsL ns p ws j ∉ ds) : DueI ns s p i (j + 1) (ds ++ [clsL ns p ws j]) where
  nod := List.nodup_append.mpr ⟨h.nod, by simp, fun x hx y hy e => d (by rw [List.mem_singleton.mp hy] at e; exact e ▸ hx)⟩
  good x hx := by
    rcases List.mem_append.mp hx with hx | hx
    · exact h.good x hx
    · rw [List.mem_singleton.mp hx]
      exact ⟨ws, j, List.mem_of_getElem? hw, j0, j1, a, rfl, b, c⟩
  all k w hk r r0 r1 hr a b c := by
    by_cases e : k = i ∧ r = j
    · obtain ⟨rfl, rfl⟩ := e
      obtain rfl := Option.some.inj (hw.symm.trans hk)
      exact List.mem_append_right _ List.mem_cons_self
    · exact List.mem_append_left _ (h.all k w hk r r0 r1 (by omega) a b c)
theorem DueI.next {ns s : List Int} {p : Int} {i : Nat} {ds : List (List (List Int))} (h : DueI ns s p i p ds) : DueI ns s p (i + 1) 0 ds :=
  ⟨h.nod, h.good, fun k w hk r r0 r1 hr a b c => h.all k w hk r r0 r1 (by omega) a b c⟩
theorem DueI.len {ns s : List Int} {N p : Int} {i : Nat} {j : Int} {ds : List (List (List Int))} (one : ∀ n ∈ ns, 1 ≤ n) (L : LeastOdd N p) (pr : prodL ns ≤ 300) (h : DueI ns s p i j ds) : ds.length ≤ 300 := by
  have p3 := L.three
  have h1 := h.nod.length_le_of_subset (l₂ := avsL ns s p) fun d hd => (good_iff one L).mp (h.good d hd)
  have h2 := avs_count (ns := ns) (s := s) p3
  have h3 := allS_len (chL_one (p := p) (ns := ns) (by omega) one)
  have h4 := chL_prod (p := p) (by omega) one
  omega
theorem DueI.perm {ns s : List Int} {N p : Int} {ds : List (List (List Int))} (one : ∀ n ∈ ns, 1 ≤ n) (L : LeastOdd N p) (h : DueI ns s p (allS (chL p ns)).length 0 ds) : ds.Perm (avsL ns s p) :=
  due_perm one L h.nod fun d => ⟨h.good d, fun ⟨ws, r, hw, r0, r1, a, e, b, c⟩ => by
    obtain ⟨k, hk⟩ := List.getElem?_of_mem hw
    have := h.all k ws hk r r0 r1 (.inl (List.getElem?_eq_some_iff.mp hk).1) a (by rw [← e]; exact b) (by rw [← e]; exact c)
    rw [e]
    exact this⟩
/-- sets whose lists stay off one that changes -/
theorem SetR.push {B : Addr → Prop} {H : Hp} {fl : Addr} {o : HO} {us : List V} {zs : List V} {ds : List (List (List Int))} (hfl : H fl = some (.lst us)) (h : SetR (fun a => B a ∧ a ≠ fl) H zs ds) : SetR (fun a => B a ∧ a ≠ fl) (upd H fl o) zs ds :=
  paired_mono (fun v d ⟨a, e, ⟨b, n⟩, ys, h1, h2⟩ => ⟨a, e, ⟨b, n⟩, ys, by rw [upd_ne n]; exact h1, h2.monoT fun c cs z => by
    rw [upd_ne (ne_of z hfl (by intro z; cases z))]
    exact z⟩) h
theorem rowsR_mem {H : Hp} : ∀ {zs : List V} {d : List (List Int)} {v : V}, RowsR H zs d → v ∈ zs → ∃ r ts, v = .ref r ∧ H r = some (.tup ts)
  | _, _, v, .cons ⟨r, e, h⟩ t, hv => by
    rcases List.mem_cons.mp hv with rfl | hv
    · exact ⟨r, _, e, h⟩
    · exact rowsR_mem t hv
/-- a list of sets is none of its sets -/
theorem SetR.off {B : Addr → Prop} {H : Hp} {f : Addr} {zs : List V} {ds : List (List (List Int))} (hf : H f = some (.lst zs)) (h : SetR B H zs ds) : SetR (fun a => B a ∧ a ≠ f) H zs ds := by
  have key : ∀ {xs : List V} {es : List (List (List Int))}, (∀ v ∈ xs, v ∈ zs) → SetR B H xs es → SetR (fun a => B a ∧ a ≠ f) H xs es := by
    intro xs es hx h
    induction h with
    | nil => exact .nil
    | cons q t ih =>
      obtain ⟨a, e, b, r⟩ := q
      refine .cons ⟨a, e, ⟨b, fun z => ?_⟩, r⟩ (ih fun v hv => hx v (List.mem_cons_of_mem _ hv))
      subst z
      obtain ⟨ys, h1, h2⟩ := r
      rw [hf] at h1
      obtain rfl : zs = ys := by
        injection h1 with h1
        injection h1
      obtain ⟨r2, ts, e2, h3⟩ := rowsR_mem h2 (hx _ List.mem_cons_self)
      rw [e] at e2
      injection e2 with e2
      subst e2
      rw [hf] at h3
      cases h3
  exact key (fun _ h => h) h
/-- .. the list itself changes -/
theorem SetR.cut {B : Addr → Prop} {H H2 : Hp} {f : Addr} {zs us : List V} {ds : List (List (List Int))} (hf : H f = some (.lst us)) (e : ∀ c o, c ≠ f → H c = some o → H2 c = some o) (h : SetR (fun a => B a ∧ a ≠ f) H zs ds) : SetR (fun a => B a ∧ a ≠ f) H2 zs ds :=
  paired_mono (fun v d ⟨a, e1, ⟨b, n⟩, ys, h1, h2⟩ => ⟨a, e1, ⟨b, n⟩, ys, e _ _ n h1, h2.monoT fun c cs z => e _ _ (ne_of z hf (by intro z; cases z)) z⟩) h
theorem sh_sets (ds : List (List (List Int))) : Sh 60 (.list (ds.map encR)) := sh_list (n := 59) fun e he => by
  obtain ⟨x, _, rfl⟩ := List.mem_map.mp he
  exact sh_encR (n := 57) x
/-- two lists of the same sets -/
theorem ne_sets {K : PySem.W.Frag} {H : Hp} {B B2 : Addr → Prop} {f g : Addr} {zs ys : List V} {ds : List (List (List Int))} {Q : VK} (hf : H f = some (.lst zs)) (rf : SetR B H zs ds) (hg : H g = some (.lst ys)) (rg : SetR B2 H ys ds) (k : Q (.bl false) H) : rNeD K (.ref f) (.ref g) H Q :=
  ⟨.list (ds.map encR), .list (ds.map encR), .lst (SqL.of hf) (dp_setR rf), .lst (SqL.of hg) (dp_setR rg), (sh_sets ds).ok, (sh_sets ds).ok, by
    rw [eqv_refl _ (sh_sets ds).1]
    exact k⟩
theorem eq_sets {K : PySem.W.Frag} {H : Hp} {B B2 : Addr → Prop} {f g : Addr} {zs ys : List V} {ds : List (List (List Int))} {Q : VK} (hf : H f = some (.lst zs)) (rf : SetR B H zs ds) (hg : H g = some (.lst ys)) (rg : SetR B2 H ys ds) (k : Q (.bl true) H) : rEqD K (.ref f) (.ref g) H Q :=
  ⟨.list (ds.map encR), .list (ds.map encR), .lst (SqL.of hf) (dp_setR rf), .lst (SqL.of hg) (dp_setR rg), (sh_sets ds).ok, (sh_sets ds).ok, by
    rw [eqv_refl _ (sh_sets ds).1]
    exact k⟩
theorem pow_300 {p : Int} (p1 : 1 ≤ p) (p2 : p ≤ 300) : ∀ i : Nat, i ≤ 4 → 1 ≤ p ^ i ∧ p ^ i ≤ 8100000000
  | i, hi => by
    have h : ∀ x : Int, 1 ≤ x → ∀ b : Int, x ≤ b → 1 ≤ x * p ∧ x * p ≤ b * 300 := fun x h1 b h2 => by
      have a := Int.mul_le_mul h1 p1 (by decide) (by omega)
      have c := Int.mul_le_mul h2 p2 (by omega) (by omega)
      omega
    have a1 := h 1 (by decide) 1 (by decide)
    have a2 := h _ a1.1 _ a1.2
    have a3 := h _ a2.1 _ a2.2
    have a4 := h _ a3.1 _ a3.2
    match i, hi with
    | 0, _ => simp
    | 1, _ => rw [Int.pow_succ, Int.pow_zero]; omega
    | 2, _ => rw [Int.pow_succ, Int.pow_succ, Int.pow_zero]; omega
    | 3, _ => rw [Int.pow_succ, Int.pow_succ, Int.pow_succ, Int.pow_zero]; omega
    | 4, _ => rw [Int.pow_succ, Int.pow_succ, Int.pow_succ, Int.pow_succ, Int.pow_zero]; omega
    | i + 5, hi => omega
theorem paired_take {α β : Type} {R : α → β → Prop} : ∀ {xs : List α} {as : List β} (n : Nat), Paired R xs as → Paired R (xs.take n) (as.take n)
  | _, _, 0, _ => by simp only [List.take_zero]; exact .nil
  | _, _, _ + 1, .nil => .nil
  | _, _, n + 1, .cons q t => .cons q (paired_take n t)
theorem paired_drop {α β : Type} {R : α → β → Prop} : ∀ {xs : List α} {as : List β} (n : Nat), Paired R xs as → Paired R (xs.drop n) (as.drop n)
  | _, _, 0, h => h
  | _, _, _ + 1, .nil => .nil
  | _, _, n + 1, .cons _ t => paired_drop n t
theorem sets_cut {B : Addr → Prop} {H : Hp} {xs : List V} {as : List (List (List Int))} (lo hi : Option Int) (h : SetR B H xs as) : ∃ bs, SetR B H (cutV xs lo hi) bs ∧ bs.Sublist as := by
  unfold cutV
  exact ⟨_, paired_take _ (paired_drop _ h), (List.take_sublist _ _).trans (List.drop_sublist _ _)⟩
theorem in_rowsD {K : PySem.W.Frag} {H : Hp} {r g : Addr} {ps : List Int} {tss : List (List Int)} {Q : VK} (hx : H r = some (.tup (ps.map V.int))) (hq : RowsAt H g tss) (k : Q (.bl (decide (ps ∈ tss))) H) : rInD K (.ref r) (.ref g) H Q := by
  obtain ⟨xs, h1, h2⟩ := hq
  exact ⟨iT ps, tss.map iT, dp_ints hx, .lst (SqL.of h1) h2.dp, (sh_ints (n := 59) _).ok, (sh_rows (n := 58) _).ok, by rw [any_rows]; exact k⟩
theorem share_two {ns s : List Int} {N p : Int} {d1 d2 : List (List Int)} (one : ∀ n ∈ ns, 1 ≤ n) (L : LeastOdd N p) (h1 : d1 ∈ avsL ns s p) (h2 : d2 ∈ avsL ns s p) (ne : d1 ≠ d2) : ((d1.filter fun x => decide (x ∈ d2)).length : Int) = 0 ∨ ((d1.filter fun x => decide (x ∈ d2)).length : Int) = prodL ns / p / p := by
  have p3 := L.three
  obtain ⟨ws, r, hw, r0, r1, _, rfl⟩ := (mem_avs76 (by omega)).mp h1
  obtain ⟨ws2, r2, hw2, q0, q1, _, rfl⟩ := (mem_avs76 (by omega)).mp h2
  by_cases e : ws = ws2
  · subst e
    refine .inl ?_
    rw [List.filter_eq_nil_iff.mpr fun x hx => ?_]
    · rfl
    · simp only [decide_eq_true_eq]
      intro hx2
      refine ne ?_
      rw [← (mem_cls.mp hx).2, ← (mem_cls.mp hx2).2]
  · refine .inr ?_
    have h := cls_share one L hw hw2 e r0 r1 q0 q1
    rw [← h, Int.mul_ediv_cancel _ (by omega), Int.mul_ediv_cancel _ (by omega)]
theorem filt_zip {α β : Type} (c : β → Bool) : ∀ {xs : List α} {ys : List β}, xs.length = ys.length → ((xs.zip ys).filter fun a => c a.2).length = (ys.filter c).length
  | [], [], _ => rfl
  | [], _ :: _, h => by simp at h
  | _ :: _, [], h => by simp at h
  | x :: xs, y :: ys, h => by
    have ih := filt_zip c (xs := xs) (ys := ys) (by simpa using h)
    rw [List.zip_cons_cons, List.filter_cons, List.filter_cons]
    by_cases z : c y = true
    · rw [if_pos z, if_pos z, List.length_cons, List.length_cons, ih]
    · rw [if_neg z, if_neg z, ih]

section
variable {P : Program} {w : World} {K : PySem.W.Frag} {mg : Str → Option Value} {base : Heap}
def sp_law_due : Sp := fun vs H Q _ => ∃ (l st : Addr) (ns s : List Int) (p : Int), vs = [.ref l, .ref st, .int p] ∧ H l = some (.tup (ns.map V.int)) ∧ SzOk ns ∧ prodL ns ≤ 300 ∧ H st = some (.tup (s.map V.int)) ∧ SeatOk ns s ∧ LeastOdd (prodL ns) p ∧
  ∀ (f : Addr) (zs : List V) H2, Ex H H2 → H f = none → H2 f = some (.lst zs) → SetR (fun a => H a = none) H2 zs ((avsL ns s p).mergeSort leR) → Q (.ref f) H2
theorem ok_law_due (T : TX K mg) : FnOk P w K mg base CX0 2 T.f_law_due T.fd_law_due ["_law_rings_here", "_law_start", "_law_prime"] sp_law_due := by
  refine T.F_law_due.ok sc_law_due (fun vs H Q E h => ?_) (fun cdv A outer s H vs Q E hr h => ?_)
  · obtain ⟨l, st, ns, s, p, rfl, _⟩ := h
    rfl
  · obtain ⟨l, st, ns, s, p, rfl, hl, ok, pr, hst, ss, L, k⟩ := h
    refine ⟨_, (pss_cons (ps_set (i := 3) sc_law_due.nd rfl (Or.inl rfl) (pe_call (ok_law_all T) hr rfl T.m_law_all T.F_law_all.kp T.b_law_all .nil pass0 (pa_cons (pv 0) pa_nil))) (pss_cons (ps_set (i := 4) sc_law_due.nd rfl (Or.inl rfl) (pe_call (ok_law_all T) hr rfl T.m_law_all T.F_law_all.kp T.b_law_all .nil pass0 (pa_cons (pe_callTy call_tuple_of (by rfl) T.z_tuple (by decide +kernel) (pa_cons (pe_lc (own := [("_law_size", 11)]) (g := (gName 11)) rfl sc_law_due.nd (pi_tup (pv 0)) (blkOk_by (N := N_law_due) (sc := defScope s_law_due) (by decide +kernel)) (fun _ _ _ _ _ => (pg_name (i := 11) sc_law_due.nd rfl (Or.inl rfl))) (fun _ _ _ _ _ => pts_nil) (fun _ _ _ _ _ => (pe_ix (r := rIxL K) ix_list (pe_lst (pa_cons pe_int (pa_cons (pv 2) pa_nil))) (pe_callTy call_int1 (by rfl) T.z_int (by decide +kernel) (pa_cons (pe_cmpR op_eq (pe_op op_mod (pv 11) (pv 2)) pe_int (nomark _)) pa_nil)) (fun _ _ => rfl)))) pa_nil)) pa_nil))) (pss_cons (ps_set (i := 5) sc_law_due.nd rfl (Or.inl rfl) (pe_lst pa_nil)) (pss_cons (ps_for PassesOwn.never rfl (pi_list (pv 4)) (pg_name (i := 6) sc_law_due.nd rfl (Or.inr rfl)) (pss_cons (ps_setLc (own := [("_law_spot", 12)]) (g := (gName 12)) (i := 7) rfl sc_law_due.nd rfl rfl (sw_true rfl rfl rfl (by decide +kernel)) (pi_list (pv 3)) (blkOk_by (N := N_law_due) (sc := defScope s_law_due) (by decide +kernel)) (fun _ _ _ _ _ => (pg_name (i := 12) sc_law_due.nd rfl (Or.inl rfl))) (fun _ _ _ _ _ => pts_nil) (fun _ _ _ _ _ => (pe_call (ok_law_value T) hr rfl T.m_law_value T.F_law_value.kp T.b_law_value .nil pass0 (pa_cons (pv 2) (pa_cons (pv 6) (pa_cons (pv 12) pa_nil)))))) (pss_cons (ps_set (i := 8) sc_law_due.nd rfl (Or.inl rfl) (pe_call (ok_law_value T) hr rfl T.m_law_value T.F_law_value.kp T.b_law_value .nil pass0 (pa_cons (pv 2) (pa_cons (pv 6) (pa_cons (pv 1) pa_nil))))) (pss_one (ps_for PassesOwn.never rfl (pi_range1 rfl T.z_range (pa_cons (pv 2) pa_nil)) (pg_name (i := 9) sc_law_due.nd rfl (Or.inr rfl)) (pss_cons (ps_setLc (own := [("_law_spot", 12), ("_law_one_here", 13)]) (g := (gTup K 2 (gCons (gName 12) (gCons (gName 13) gNil)))) (i := 10) rfl sc_law_due.nd rfl rfl (sw_true rfl rfl rfl (by decide +kernel)) (CZ.pi_z2 (fl := [false, false]) rfl (by rfl) T.z_zip (pa_cons (pv 3) (pa_cons (pv 7) pa_nil))) (blkOk_by (N := N_law_due) (sc := defScope s_law_due) (by decide +kernel)) (fun _ _ _ _ _ => (pg_tup rfl (pgs_cons (pg_name (i := 12) sc_law_due.nd rfl (Or.inl rfl)) (pgs_cons (pg_name (i := 13) sc_law_due.nd rfl (Or.inl rfl)) pgs_nil)))) (fun _ _ _ _ _ => (pts_one (pt_cmpR op_eq (pv 13) (pv 9) (nomark _)))) (fun _ _ _ _ _ => (pv 12))) (pss_one (ps_if (PW.pt (pw_and (pt_cmpR op_ne (pv 9) (pv 8) (nomark _)) (pw_and (pt_cmpR op_lt (pe_callB call_len_seq (by rfl) T.z_len (by decide +kernel) (pa_cons (pv 10) pa_nil)) (pe_callB call_len_seq (by rfl) T.z_len (by decide +kernel) (pa_cons (pv 3) pa_nil)) (nomark _)) (pw_and (pt_cmpR (r := rNeD K) (op_neD hr.units) (pv 10) (pe_lst pa_nil) (nomark _)) (pw_and1 (pt_cmpR (r := rNotInD K) (op_notInD (u65 hr)) (pv 10) (pv 5) rfl)))))) (pss_one (ps_expr (pe_bm PySem.F.plainAttrs_list PySem.F.slot_list_append PySem.F.type_list_append mt_append (pv 5) (pa_cons (pv 10) pa_nil)))) pss_nil)))))))) (pss_one (ps_ret (pe_callB (cr_sortR (u65 hr)) (by rfl) T.z_sorted (by decide +kernel) (pa_cons (pv 5) pa_nil)))))))), ?_⟩
    have l4 := ok.le
    refine ⟨_, rfl, l, ns, rfl, hl, ok, pr, fun ev H1 e1 nev ra => ?_⟩
    dsimp only [gName]
    have one := ok.one
    have p3 := L.three
    have pp : p ≤ 300 := by have := L.le; omega
    have lch : (chL p ns).length = ns.length := by unfold chL; rw [List.length_map]
    refine ⟨_, rfl, l, rfl, ⟨_, SqT.of (e1 _ _ hl)⟩, fun D hD => ?_⟩
    refine lc_vals (walk_tup (xs := ns.map V.int)) ((chL p ns).map V.int) (by rw [List.length_map, List.length_map, lch]) (by rw [List.length_map]; omega) hD (fun H3 e => SqT.of (e _ _ (e1 _ _ hl))) ?_ gmono_name ?_
    · rintro j x _ Hx R hj ex ⟨rfl, hx⟩ kk
      obtain ⟨n, hn, rfl⟩ := map_get hx
      refine ⟨rfl, ?_⟩
      refine ⟨_, rfl, slen rfl, ?_⟩
      (intro u nu; generalize hGu : upd _ u _ = Hy; have eHy := exG hGu nu; have hu := atG hGu; clear hGu)
      refine ⟨_, rfl, _, rfl, _, _, rfl, rfl, by omega, rfl, .inr ⟨_, rfl, ?_⟩⟩
      rw [dec_int]
      have hkk : ∀ H7, Ex Hx H7 → R (.int (if n % p = 0 then p else 1)) H7 := fun H7 e7 => kk _ _ e7 (by unfold chL; rw [List.getElem?_map, List.getElem?_map, hn]; rfl)
      by_cases c : n % p = 0
      · rw [if_pos c] at hkk
        exact ⟨u, [.int 1, .int p], 1, .int p, rfl, by simp [c], SqL.of hu, rfl, hkk _ eHy⟩
      · rw [if_neg c] at hkk
        exact ⟨u, [.int 1, .int p], 0, .int 1, rfl, by simp [c], SqL.of hu, rfl, hkk _ eHy⟩
    intro H3 e3 hD3
    refine ⟨D, _, rfl, .inl ⟨SqL.of hD3, ?_⟩⟩
    (intro ct nct; generalize hGct : upd _ ct _ = H4; have eH4 := exG hGct nct; have hct := atG hGct; clear hGct)
    have okc : SzOk (chL p ns) := ⟨fun z => ok.pos (List.eq_nil_of_length_eq_zero (by rw [← lch, z]; rfl)), by rw [lch]; exact ok.le, chL_one (by omega) one⟩
    refine ⟨ct, chL p ns, rfl, hct, okc, Int.le_trans (chL_prod (by omega) one) pr, fun rw2 H5 e5 nrw rc => ?_⟩
    dsimp only [gName]
    refine ⟨slen rfl, ?_⟩
    (intro fl nfl; generalize hGfl : upd _ fl _ = H6; have eH6 := exG hGfl nfl; have hfl := atG hGfl; clear hGfl)
    dsimp only [gName]
    obtain ⟨xs, hxe, rxe⟩ := id ra
    obtain ⟨cs, hxr, rxr⟩ := id rc
    have lxs : xs.length = (allS ns).length := rxe.len
    have lcs : cs.length = (allS (chL p ns)).length := rxr.len
    have lA : (allS ns).length ≤ 300 := by have := allS_len one; omega
    have lC : (allS (chL p ns)).length ≤ 300 := by
      have h1 := allS_len (chL_one (p := p) (by omega) one)
      have h2 := chL_prod (p := p) (by omega) one
      omega
    have E15 := ext e3 (ext eH4 e5)
    have E6 := ext e1 (ext E15 eH6)
    have nfl0 : H fl = none := Evl.fresh_back (ext e1 E15) nfl
    have hev6 := (ext E15 eH6) _ _ hxe
    have rxe6 := rxe.mono (ext E15 eH6)
    have hrw6 := eH6 _ _ hxr
    have rxr6 := rxr.mono eH6
    have nef : ev ≠ fl := ne_of_none (E15 _ _ hxe) nfl
    have nrf : rw2 ≠ fl := ne_of_none hxr nfl
    clear e3 eH4 e5 E15 hD3 hct ra rc hxe hxr rxe rxr eH6
    refine ⟨_, rfl, rw2, rfl, ⟨_, SqL.of hrw6⟩, ?_⟩
    refine for_it (walk_list (xs := cs)) (fun i σ Hx => (∃ y6 y7 y8 y9 y10 y11 y12 y13 : Option V, σ = [some (.ref l), some (.ref st), some (.int p), some (.ref ev), some (.ref rw2), some (.ref fl), y6, y7, y8, y9, y10, y11, y12, y13]) ∧ Ex H Hx ∧ Hx ev = some (.lst xs) ∧ RowsR Hx xs (allS ns) ∧ Hx rw2 = some (.lst cs) ∧ RowsR Hx cs (allS (chL p ns)) ∧ ∃ zs ds, Hx fl = some (.lst zs) ∧ SetR (fun a => H a = none ∧ a ≠ fl) Hx zs ds ∧ DueI ns s p i 0 ds) ⟨⟨_, _, _, _, _, _, _, _, rfl⟩, E6, hev6, rxe6, hrw6, rxr6, [], [], hfl, .nil, ⟨List.Pairwise.nil, fun d hd => (nomatch hd), fun k ws hk r r0 r1 hr => absurd hr (by omega)⟩⟩ (fun i σ Hx _ q => SqL.of q.2.2.2.2.1) ?_ ?_
    · rintro i x σ _ Hx hi ⟨⟨y6, y7, y8, y9, y10, y11, y12, y13, rfl⟩, ex, hev, rxe, hrw, rxr, zs, ds, hfx, rz, D⟩ ⟨rfl, hx⟩
      obtain ⟨ws, wr, hws, rfl, hwr⟩ := rxr.get hx
      clear hev6 rxe6 hrw6 rxr6 E6
      have F := FitW.of (ns := ns) (show 0 < p by omega) (List.mem_of_getElem? hws)
      dsimp only [gName]
      have wb : ∀ w ∈ ws, w.natAbs < 2 ^ 5000 := fun w hw => by
        have := F.w0 w hw
        exact Nat.lt_of_lt_of_le (show w.natAbs < 2 ^ 9 by show _ < 512; omega) (Nat.pow_le_pow_right (by decide) (by decide))
      have pb : ∀ q : List Int, SeatOk ns q → ∀ x ∈ q, x.natAbs < 2 ^ 5000 := fun q sq x hx => by
        have := seat_lt (fun n hn => by have := mul_le_of_mem one hn; omega) sq x hx
        exact Nat.lt_of_lt_of_le (show x.natAbs < 2 ^ 9 by show _ < 512; omega) (Nat.pow_le_pow_right (by decide) (by decide))
      refine ⟨_, rfl, ev, rfl, ⟨_, SqL.of hev⟩, fun Dv hDv => ?_⟩
      refine lc_vals (walk_list (xs := xs)) (((allS ns).map fun q => wsum ws q % p).map V.int) (by rw [List.length_map, List.length_map, lxs]) (by omega) hDv (fun H3 e => SqL.of (e _ _ hev)) ?_ gmono_name ?_
      · rintro j x _ Ha R hj ea ⟨rfl, hx⟩ kk
        obtain ⟨q, qr, hq, rfl, hqr⟩ := rxe.get hx
        have sq := mem_allS.mp (List.mem_of_getElem? hq)
        refine ⟨rfl, _, rfl, _, rfl, _, rfl, p, wr, qr, ws, q, rfl, by omega, ea _ _ hwr, ea _ _ hqr, by rw [F.len, sq.len], by rw [sq.len]; omega, wb, pb q sq, fun Hb eb => kk _ _ eb ?_⟩
        rw [List.getElem?_map, List.getElem?_map, hq]
        rfl
      intro Ha ea hDa
      dsimp only [gName]
      refine ⟨_, rfl, _, rfl, _, rfl, p, wr, st, ws, s, rfl, by omega, ea _ _ hwr, ea _ _ (ex _ _ hst), by rw [F.len, ss.len], by rw [ss.len]; omega, wb, pb s ss, fun Hb eb => ?_⟩
      have Eab := ext ea eb
      have exb := ext ex Eab
      have hevb := Eab _ _ hev
      have rxeb := rxe.mono Eab
      have hrwb := Eab _ _ hrw
      have rxrb := rxr.mono Eab
      have hfb := Eab _ _ hfx
      have rzb : SetR (fun a => H a = none ∧ a ≠ fl) Hb zs ds := paired_mono (fun v d ⟨a, e, b, r⟩ => ⟨a, e, b, r.mono Eab⟩) rz
      have hDb := eb _ _ hDa
      have nDf : Dv ≠ fl := (ne_of_none hfx hDv).symm
      clear ea eb Eab ex hev rxe hrw rxr hfx rz hDa hDv hwr
      dsimp only [gName]
      refine ⟨_, rfl, p, rfl, by omega, by omega, ?_⟩
      refine for_it walk_range (fun j σ Hx => (∃ y9 y10 y11 y12 y13 : Option V, σ = [some (.ref l), some (.ref st), some (.int p), some (.ref ev), some (.ref rw2), some (.ref fl), some (.ref wr), some (.ref Dv), some (.int (wsum ws s % p)), y9, y10, y11, y12, y13]) ∧ Ex H Hx ∧ Hx ev = some (.lst xs) ∧ RowsR Hx xs (allS ns) ∧ Hx rw2 = some (.lst cs) ∧ RowsR Hx cs (allS (chL p ns)) ∧ Hx Dv = some (.lst (((allS ns).map fun q => wsum ws q % p).map V.int)) ∧ ∃ zs ds, Hx fl = some (.lst zs) ∧ SetR (fun a => H a = none ∧ a ≠ fl) Hx zs ds ∧ DueI ns s p i (j : Int) ds) ⟨⟨_, _, _, _, _, rfl⟩, exb, hevb, rxeb, hrwb, rxrb, hDb, zs, ds, hfb, rzb, D⟩ (fun _ _ _ _ _ => True.intro) ?_ ?_
      · rintro j x σ _ Hc hj ⟨⟨y9, y10, y11, y12, y13, rfl⟩, ex, hev, rxe, hrw, rxr, hDv, zs, ds, hfx, rz, D⟩ ⟨rfl, rfl⟩
        clear exb hevb rxeb hrwb rxrb hfb rzb hDb
        dsimp only [gName]
        rw [show ((0 : Int) + (j : Int)) = (j : Int) from Int.zero_add _]
        refine ⟨_, rfl, _, rfl, [ev, Dv], rfl, rfl, all2 (sqL hev) (sqL hDv), fun D2 hD2 => ?_⟩
        refine lc_filt (CZ.walk_rows (xss := [xs, ((allS ns).map fun q => wsum ws q % p).map V.int]) (n := (allS ns).length) (lens2 lxs (by rw [List.length_map, List.length_map]))) (xs.zip (allS ns)) (fun a => decide (wsum ws a.2 % p = (j : Int))) (fun a => a.1) (by rw [List.length_zip]; omega) (by omega) hD2 (fun H3 e => .cons (sqL (e _ _ hev)) (.cons (sqL (e _ _ hDv)) .nil)) ?_ ?_
        · rintro t x a Ha H2 R S ha ea yy kR kS
          obtain ⟨Ta, v, b, rfl, hTa, rfl, hv, hb⟩ := yvi2 yy
          obtain ⟨q, r0, hq, rfl, hr0⟩ := rxe.get hv
          have eqa : a = (V.ref r0, q) := by
            rw [List.getElem?_zip_eq_some] at ha
            rw [hv, hq] at ha
            exact Prod.ext (Option.some.inj ha.1).symm (Option.some.inj ha.2).symm
          subst eqa
          rw [List.getElem?_map, hq] at hb
          obtain rfl := Option.some.inj hb
          refine ⟨Ta, _, rfl, SqT.of upd_same, rfl, _, _, rfl, _, _, rfl, rfl, ?_⟩
          refine ⟨rfl, _, rfl, _, rfl, rfl, _, rfl, ?_⟩
          have ax := exn (o := .tup [V.ref r0, V.int (wsum ws q % p)]) hTa
          by_cases c : wsum ws q % p = (j : Int)
          · refine itt (by show decide (V.int (wsum ws q % p) = V.int (j : Int)) = true; rw [c]; simp) ?_
            exact ⟨_, rfl, kR _ _ ax (decide_eq_true c) rfl⟩
          · exact itf (by show decide (V.int (wsum ws q % p) = V.int (j : Int)) = false; rw [dec_int]; simpa using c) (kS _ ax (decide_eq_false c))
        intro H3 e3 hD3
        have rcl : RowsR H3 (((xs.zip (allS ns)).filter fun a => decide (wsum ws a.2 % p = (j : Int))).map fun a => a.1) (clsL ns p ws (j : Int)) := (RowsR.filt (fun q => decide (wsum ws q % p = (j : Int))) rxe).mono e3
        generalize (((xs.zip (allS ns)).filter fun a => decide (wsum ws a.2 % p = (j : Int))).map fun a => a.1) = cv at hD3 rcl
        have lcv := rcl.len
        dsimp only [gName]
        have Ex3 := ext ex e3
        have rz3 : SetR (fun a => H a = none ∧ a ≠ fl) H3 zs ds := paired_mono (fun v d ⟨a, e, b, r⟩ => ⟨a, e, b, r.mono e3⟩) rz
        refine ⟨_, rfl, _, rfl, rfl, _, rfl, ?_⟩
        by_cases off : (j : Int) = wsum ws s % p
        · refine itf (by rw [off]; simp) ?_
          exact itf rfl ⟨⟨_, _, _, _, _, rfl⟩, Ex3, e3 _ _ hev, rxe.mono e3, e3 _ _ hrw, rxr.mono e3, e3 _ _ hDv, zs, ds, e3 _ _ hfx, rz3, D.skip hws fun z => absurd off z⟩
        refine itt (by rw [dec_int]; simpa using off) ?_
        refine ⟨_, rfl, D2, _, rfl, .inl (SqL.of hD3), _, rfl, ev, _, rfl, .inl (SqL.of (e3 _ _ hev)), _, _, rfl, rfl, _, rfl, ?_⟩
        by_cases sm : (clsL ns p ws (j : Int)).length < (allS ns).length
        rotate_left
        · refine itf (by rw [lcv, lxs]; simpa using sm) ?_
          exact itf rfl ⟨⟨_, _, _, _, _, rfl⟩, Ex3, e3 _ _ hev, rxe.mono e3, e3 _ _ hrw, rxr.mono e3, e3 _ _ hDv, zs, ds, e3 _ _ hfx, rz3, D.skip hws fun _ z => absurd z sm⟩
        refine itt (by rw [lcv, lxs]; simpa using sm) ?_
        refine ⟨_, rfl, slen rfl, ?_⟩
        (intro b0 nb0; generalize hGb0 : upd _ b0 _ = H4; have eH4 := exG hGb0 nb0; have hb0 := atG hGb0; clear hGb0)
        have e4 := ext e3 eH4
        have rz4 : SetR (fun a => H a = none ∧ a ≠ fl) H4 zs ds := paired_mono (fun v d ⟨a, e, b, r⟩ => ⟨a, e, b, r.mono eH4⟩) rz3
        have hD4 := eH4 _ _ hD3
        have rcl4 := rcl.mono eH4
        refine ⟨encR (clsL ns p ws (j : Int)), encR [], dp_rowsAt ⟨cv, hD4, rcl4⟩, dp_rowsAt ⟨[], hb0, .nil⟩, (sh_encR (n := 58) _).ok, (sh_encR (n := 58) _).ok, _, rfl, ?_⟩
        rw [show PyData.eqv (encR (clsL ns p ws (j : Int))) (encR []) = decide (clsL ns p ws (j : Int) = []) from eqv_rows _ _]
        by_cases ne : clsL ns p ws (j : Int) = []
        · refine itf (by simp [ne]) ?_
          exact itf rfl ⟨⟨_, _, _, _, _, rfl⟩, ext ex e4, e4 _ _ hev, rxe.mono e4, e4 _ _ hrw, rxr.mono e4, e4 _ _ hDv, zs, ds, e4 _ _ hfx, rz4, D.skip hws fun _ _ z => absurd ne z⟩
        refine itt (by simp [ne]) ?_
        refine ⟨_, rfl, _, rfl, notin_sets ⟨cv, hD4, rcl4⟩ (e4 _ _ hfx) rz4 ⟨_, rfl, ?_⟩⟩
        by_cases mem : clsL ns p ws (j : Int) ∈ ds
        · refine itf (by simp [mem]) ?_
          exact ⟨⟨_, _, _, _, _, rfl⟩, ext ex e4, e4 _ _ hev, rxe.mono e4, e4 _ _ hrw, rxr.mono e4, e4 _ _ hDv, zs, ds, e4 _ _ hfx, rz4, D.skip hws fun _ _ _ => mem⟩
        refine itt (by simp [mem]) ?_
        have hfx4 := e4 _ _ hfx
        refine ⟨_, rfl, .inl ⟨rfl, _, SqL.of hfx4⟩, ?_⟩
        refine ⟨_, rfl, fl, _, _, rfl, rfl, hfx4, ?_, ?_⟩
        · rw [Paired.length rz4]
          exact Nat.lt_of_le_of_lt (D.len one L pr) (by decide)
        have nD2f : D2 ≠ fl := (ne_of_none hfx hD2).symm
        generalize hG5 : upd H4 fl _ = H5
        have h5n : ∀ c o, c ≠ fl → H4 c = some o → H5 c = some o := fun c o n z => by rw [← hG5, upd_ne n]; exact z
        have h5t : ∀ c ys, H4 c = some (.tup ys) → H5 c = some (.tup ys) := fun c ys z => h5n _ _ (ne_of z hfx4 (by intro z; cases z)) z
        have hf5 : H5 fl = some (.lst (zs ++ [.ref D2])) := by rw [← hG5, upd_same]
        have rz5 : SetR (fun a => H a = none ∧ a ≠ fl) H5 zs ds := by
          rw [← hG5]
          exact SetR.push hfx4 rz4
        have ex5 : Ex H H5 := by
          rw [← hG5]
          exact ex_upd (ext ex e4) nfl0
        clear hG5
        refine ⟨⟨_, _, _, _, _, rfl⟩, ex5, h5n _ _ nef (e4 _ _ hev), (rxe.mono e4).monoT h5t, h5n _ _ nrf (e4 _ _ hrw), (rxr.mono e4).monoT h5t, h5n _ _ nDf (e4 _ _ hDv), zs ++ [.ref D2], ds ++ [clsL ns p ws (j : Int)], hf5, paired_snoc ⟨D2, rfl, ⟨Evl.fresh_back ex hD2, nD2f⟩, cv, h5n _ _ nD2f hD4, rcl4.monoT h5t⟩ rz5, D.add hws (by omega) (by omega) off sm ne mem⟩
      rintro σ Hc ⟨⟨y9, y10, y11, y12, y13, rfl⟩, ex, hev, rxe, hrw, rxr, hDv, zs, ds, hfx, rz, D⟩
      refine ⟨⟨_, _, _, _, _, _, _, _, rfl⟩, ex, hev, rxe, hrw, rxr, zs, ds, hfx, rz, DueI.next ?_⟩
      rw [show ((p.toNat : Nat) : Int) = p by omega] at D
      exact D
    rintro σ Hx ⟨⟨y6, y7, y8, y9, y10, y11, y12, y13, rfl⟩, ex, hev, rxe, hrw, rxr, zs, ds, hfx, rz, D⟩
    rw [lcs] at D
    refine ⟨_, rfl, _, fl, zs, ds, rfl, hfx, rz, fun ys q hys nq => ?_⟩
    rw [sortR_same (D.perm one L)] at hys
    refine k q ys _ (ext ex (exn nq)) (Evl.fresh_back ex nq) upd_same ?_
    exact paired_mono (fun v d ⟨a, e, b, r⟩ => ⟨a, e, b.1, r.mono (exn nq)⟩) hys
end

theorem kb_avoided_sets_10 {K : PySem.W.Frag} {mg : Str → Option Value} (T : TX K mg) : KBn K T.fd_avoided_sets ["table", "seat"] 0 ["seat", "table"] (fun us ws => pick [1, 0] (us ++ ws)) (fun vs zs => pick [1, 0] (vs ++ zs)) :=
  kbn_of T.F_avoided_sets 0 ["seat", "table"] [1, 0] fun _ _ _ _ _ _ us ws h1 h2 => match us, ws, h1, h2 with | [], [_, _], _, _ => rfl
section
variable {P : Program} {w : World} {K : PySem.W.Frag} {mg : Str → Option Value} {base : Heap}
def sp_law_right : Sp := fun vs H Q _ => ∃ (l st : Addr) (ns s : List Int), vs = [.ref l, .ref st] ∧ H l = some (.tup (ns.map V.int)) ∧ SzOk ns ∧ prodL ns ≤ 300 ∧ H st = some (.tup (s.map V.int)) ∧ SeatOk ns s ∧ ∀ H2, Ex H H2 → Q (.bl true) H2
theorem ok_law_right (T : TX K mg) : FnOk P w K mg base CX0 7 T.f_law_right T.fd_law_right ["_law_rings_here", "_law_start"] sp_law_right := by
  refine T.F_law_right.ok sc_law_right (fun vs H Q E h => ?_) (fun cdv A outer s H vs Q E hr h => ?_)
  · obtain ⟨l, st, ns, s, rfl, _⟩ := h
    rfl
  · obtain ⟨l, st, ns, s, rfl, hl, ok, pr, hst, ss, k⟩ := h
    refine ⟨_, (pss_cons (ps_asg (pe_tup (pa_cons (pe_make T.M_Table (ok_Table_init T) (hr.mono (by decide)) rfl T.m_Table T.b_Table_init .nil pass0 (pa_cons (pv 0) pa_nil)) (pa_cons (pe_call (ok_law_least_prime T) (hr.mono (by decide)) rfl T.m_law_least_prime T.F_law_least_prime.kp T.b_law_least_prime .nil pass0 (pa_cons (pv 0) pa_nil)) pa_nil))) (pg_tup rfl (pgs_cons (pg_name (i := 2) sc_law_right.nd rfl (Or.inr rfl)) (pgs_cons (pg_name (i := 3) sc_law_right.nd rfl (Or.inr rfl)) pgs_nil)))) (pss_cons (ps_set (i := 4) sc_law_right.nd rfl (Or.inl rfl) (pe_call (ok_avoided_sets T) hr rfl T.m_avoided_sets T.F_avoided_sets.kp T.b_avoided_sets .nil pass0 (pa_cons (pv 2) (pa_cons (pv 1) pa_nil)))) (pss_cons (ps_if (pt_cmpR op_isN (pv 3) pe_non (nomark _)) (pss_one (ps_ret (pe_and (pe_cmpR (r := rEqD K) (op_eqD hr.units) (pv 4) (pe_lst pa_nil) (nomark _)) (pe_one (pe_callB call_isi (by rfl) T.z_isinstance (by decide +kernel) (pa_cons (pv 4) (pa_cons (pe_bltn (v := .ty "list") rfl T.z_list (by decide +kernel) rfl) pa_nil))))))) pss_nil) (pss_cons (ps_if (pt_cmpR (r := rNeD K) (op_neD hr.units) (pv 4) (pe_call (ok_law_due T) (hr.mono (by decide)) rfl T.m_law_due T.F_law_due.kp T.b_law_due .nil pass0 (pa_cons (pv 0) (pa_cons (pv 1) (pa_cons (pv 3) pa_nil)))) (nomark _)) (pss_one (ps_ret pe_bl)) pss_nil) (pss_cons (ps_set (i := 5) sc_law_right.nd rfl (Or.inl rfl) (pe_callB call_len_seq (by rfl) T.z_len (by decide +kernel) (pa_cons (pe_lc (own := [("_law_size", 11)]) (g := (gName 11)) rfl sc_law_right.nd (pi_tup (pv 0)) (blkOk_by (N := N_law_right) (sc := defScope s_law_right) (by decide +kernel)) (fun _ _ _ _ _ => (pg_name (i := 11) sc_law_right.nd rfl (Or.inl rfl))) (fun _ _ _ _ _ => (pts_one (pt_cmpR op_eq (pe_op op_mod (pv 11) (pv 3)) pe_int (nomark _)))) (fun _ _ _ _ _ => (pv 11))) pa_nil))) (pss_cons (ps_set (i := 6) sc_law_right.nd rfl (Or.inl rfl) pe_int) (pss_cons (ps_for PassesOwn.never rfl (pi_range1 rfl T.z_range (pa_cons (pv 5) pa_nil)) (pg_name (i := 7) sc_law_right.nd rfl (Or.inl rfl)) (pss_one (ps_set (i := 6) sc_law_right.nd rfl (Or.inl rfl) (pe_op op_mulI (pv 6) (pv 3))))) (pss_cons (ps_if (PW.pt (pw_or (pt_cmpR op_ne (pe_callB call_len_seq (by rfl) T.z_len (by decide +kernel) (pa_cons (pv 4) pa_nil)) (pe_op op_sub (pv 6) pe_int) (nomark _)) (pw_or1 (pt_cmpR (r := rNeD K) (op_neD hr.units) (pe_lc (own := [("_law_some", 8)]) (g := (gName 8)) rfl sc_law_right.nd (pi_list (pv 4)) (blkOk_by (N := N_law_right) (sc := defScope s_law_right) (by decide +kernel)) (fun _ _ _ _ _ => (pg_name (i := 8) sc_law_right.nd rfl (Or.inl rfl))) (fun _ _ _ _ _ => (pts_one (pt_cmpR op_ne (pe_op op_mulI (pe_callB (r := rLenQ K) call_len_seq (by rfl) T.z_len (by decide +kernel) (pa_cons (pv 8) pa_nil)) (pv 3)) (pe_meth0 (pv 2) T.cl_Table T.me_Table_count (ok_Table_count T) (hr.mono (by decide)) T.b_Table_count .nil pass0) (nomark _)))) (fun _ _ _ _ _ => pe_int)) (pe_lst pa_nil) (nomark _))))) (pss_one (ps_ret pe_bl)) pss_nil) (pss_cons (ps_for PassesOwn.never rfl (pi_list (pe_slice sl_list (pv 4) po_none (po_some pe_int))) (pg_name (i := 8) sc_law_right.nd rfl (Or.inl rfl)) (pss_one (ps_for PassesOwn.never rfl (pi_list (pe_slice sl_list (pv 4) po_none (po_some pe_int))) (pg_name (i := 9) sc_law_right.nd rfl (Or.inr rfl)) (pss_cons (ps_set (i := 10) sc_law_right.nd rfl (Or.inl rfl) (pe_callB call_len_seq (by rfl) T.z_len (by decide +kernel) (pa_cons (pe_lc (own := [("_law_spot", 12)]) (g := (gName 12)) rfl sc_law_right.nd (pi_list (pv 8)) (blkOk_by (N := N_law_right) (sc := defScope s_law_right) (by decide +kernel)) (fun _ _ _ _ _ => (pg_name (i := 12) sc_law_right.nd rfl (Or.inl rfl))) (fun _ _ _ _ _ => (pts_one (pt_cmpR (r := rInD K) (op_inD (u65 hr)) (pv 12) (pv 9) rfl))) (fun _ _ _ _ _ => (pv 12))) pa_nil))) (pss_one (ps_if (PW.pt (pw_and (pt_cmpR (r := rNeD K) (op_neD hr.units) (pv 8) (pv 9) (nomark _)) (pw_and1 (pt_cmpR op_notIn_seq (pv 10) (pe_tup (pa_cons pe_int (pa_cons (pe_op op_fdivW (pe_op op_fdivW (pe_meth0 (pv 2) T.cl_Table T.me_Table_count (ok_Table_count T) (hr.mono (by decide)) T.b_Table_count .nil pass0) (pv 3)) (pv 3)) pa_nil))) rfl)))) (pss_one (ps_ret pe_bl)) pss_nil)))))) (pss_cons (ps_expr (pe_bm0 PySem.F.plainAttrs_list PySem.F.slot_list_clear PySem.F.type_list_clear mt_clear (pe_ix ix_list (pv 4) pe_int (fun _ _ => rfl)))) (pss_cons (ps_expr (pe_bm PySem.F.plainAttrs_list PySem.F.slot_list_append PySem.F.type_list_append mt_append (pv 4) (pa_cons pe_non pa_nil))) (pss_one (ps_ret (pe_cmpR (r := rEqD K) (op_eqD hr.units) (pe_callKw (ok_avoided_sets T) hr rfl T.m_avoided_sets T.F_avoided_sets.kp (kb_avoided_sets_10 T) pass0 (pk_cons (pv 1) (pk_cons (pv 2) pk_nil))) (pe_call (ok_law_due T) (hr.mono (by decide)) rfl T.m_law_due T.F_law_due.kp T.b_law_due .nil pass0 (pa_cons (pv 0) (pa_cons (pv 1) (pa_cons (pv 3) pa_nil)))) (nomark _))))))))))))))), ?_⟩
    have l4 := ok.le
    have one := ok.one
    have prd := allS_len one
    have pos := prodL_pos one
    refine ⟨_, rfl, ?_⟩
    refine mk_tab (b := true) (ns := ns) (show SqH H (true, l) _ from hl) ok fun bd H1 e1 nbd tab1 => ?_
    refine ⟨_, rfl, l, ns, rfl, e1 _ _ hl, ok, pr, fun H2 e2 => ⟨slen rfl, ?_⟩⟩
    (intro tq ntq; generalize hGtq : upd _ tq _ = H3; have eH3 := exG hGtq ntq; have htq := atG hGtq; clear hGtq)
    have E3 := ext e1 (ext e2 eH3)
    have tab3 := tab1.mono (ext e2 eH3)
    refine ⟨tq, _, rfl, SqT.of htq, rfl, _, _, rfl, _, _, rfl, rfl, ?_⟩
    dsimp only [gName]
    refine ⟨_, rfl, _, rfl, bd, st, ns, s, rfl, tab3, ok, pr, E3 _ _ hst, ss, fun f zs H4 e4 nf hf rz => ?_⟩
    have E4 := ext E3 e4
    have nf0 : H f = none := Evl.fresh_back E3 nf
    have rz0 := SetR.off hf rz
    clear e1 e2 eH3 htq tab1
    dsimp only [gName]
    cases hp : oddP (prodL ns) with
    | none =>
      have ea : avL ns s = [] := by
        unfold avL
        rw [hp]
      rw [ea, List.mergeSort_nil] at rz0
      cases rz0
      refine ⟨_, rfl, rfl, _, rfl, itt (by decide) ?_⟩
      refine ⟨_, rfl, slen rfl, ?_⟩
      (intro b nb; generalize hGb : upd _ b _ = H5; have eH5 := exG hGb nb; have hb := atG hGb; clear hGb)
      refine ⟨.list [], .list [], .lst (SqL.of (eH5 _ _ hf)) .nil, .lst (SqL.of hb) .nil, (sh_sets []).ok, (sh_sets []).ok, _, rfl, itt (eqv_refl _ (sh_sets []).1) ?_⟩
      refine ⟨_, rfl, _, _, _, _, true, rfl, .ty _, .base (.lst (eH5 _ _ hf)), kit_ty (by decide +kernel), ?_⟩
      exact k _ (ext E4 eH5)
    | some p =>
      have L := oddP_some pos hp
      have p3 := L.three
      have pp := L.le
      have ea : avL ns s = avsL ns s p := by
        unfold avL
        rw [hp]
      rw [ea] at rz0
      refine ⟨_, rfl, rfl, _, rfl, itf (by show decide (V.int p = V.non) = false; exact decide_eq_false fun z => by cases z) ?_⟩
      dsimp only [tNext]
      refine ⟨_, rfl, _, rfl, _, rfl, _, rfl, l, st, ns, s, p, rfl, E4 _ _ hl, ok, pr, E4 _ _ hst, ss, L, fun g ys H5 e5 ng hg ry => ?_⟩
      refine ne_sets (e5 _ _ hf) (paired_mono (fun v d ⟨a, e, b, r⟩ => ⟨a, e, b, r.mono e5⟩) rz0) hg ry ⟨_, rfl, itf rfl ?_⟩
      have rz5 : SetR (fun a => H3 a = none ∧ a ≠ f) H5 zs ((avsL ns s p).mergeSort leR) := paired_mono (fun v d ⟨a, e, b, r⟩ => ⟨a, e, b, r.mono e5⟩) rz0
      have E5 := ext E4 e5
      have hf5 := e5 _ _ hf
      have tab5 := tab3.mono (ext e4 e5)
      clear rz rz0 ry hg hf
      have mds : ∀ d, d ∈ (avsL ns s p).mergeSort leR → d ∈ avsL ns s p := fun d hd => (List.mergeSort_perm _ _).mem_iff.mp hd
      have lds : (((avsL ns s p).mergeSort leR).length : Int) + 1 = p ^ (ns.filter fun n => decide (n % p = 0)).length := by
        rw [List.length_mergeSort, avs_count p3, allS_len (chL_one (by omega) one), chprod]
      generalize hds : (avsL ns s p).mergeSort leR = ds at rz5 mds lds
      have lzs := Paired.length rz5
      dsimp only [tNext]
      refine ⟨_, rfl, l, rfl, ⟨_, SqT.of (E5 _ _ hl)⟩, fun D hD => ?_⟩
      refine lc_filt (walk_tup (xs := ns.map V.int)) ns (fun n => decide (n % p = 0)) V.int (by simp) (by rw [List.length_map]; omega) hD (fun _ e => SqT.of (e _ _ (E5 _ _ hl))) ?_ ?_
      · rintro j x a Ha _ R S ha ea ⟨rfl, hx⟩ kR kS
        rw [List.getElem?_map, ha] at hx
        obtain rfl := Option.some.inj hx
        refine ⟨rfl, ?_⟩
        (repeat (first | refine ⟨rfl, ?_⟩ | refine ⟨_, rfl, ?_⟩ | refine ⟨_, _, rfl, rfl, ?_⟩ | refine ⟨_, _, rfl, ?_⟩ | refine ⟨slen rfl, ?_⟩ | refine ⟨⟨by decide, by decide +kernel⟩, ?_⟩ | refine ⟨⟨by decide, by decide, by decide⟩, ?_⟩ | refine ⟨(by show (0 : Int) < _; first | decide | assumption | omega), ?_⟩ | refine ⟨mul_ok (by first | exact .inr (by decide) | exact .inl (by decide)), ?_⟩))
        by_cases c : a % p = 0
        · exact itt (decide_eq_true (congrArg V.int c)) ⟨_, rfl, kR _ _ exr (decide_eq_true c) rfl⟩
        · exact itf (decide_eq_false fun z => c (V.int.inj z)) (kS _ exr (decide_eq_false c))
      intro H6 e6 hD6
      refine ⟨D, _, rfl, .inl (SqL.of hD6), ?_⟩
      rw [List.length_map]
      have E6 := ext E5 e6
      have hf6 := e6 _ _ hf5
      have rz6 : SetR (fun a => H3 a = none ∧ a ≠ f) H6 zs ds := paired_mono (fun v d ⟨a, e, b, r⟩ => ⟨a, e, b, r.mono e6⟩) rz5
      have tab6 := tab5.mono e6
      have F6 : Ex H3 H6 := ext e4 (ext e5 e6)
      clear rz5 hf5 tab5 E5 hD6 hD e5 e6 e4 E4
      generalize hrk : (ns.filter fun n => decide (n % p = 0)).length = rk at lds
      dsimp only [gName]
      have rk4 : rk ≤ 4 := by
        rw [← hrk]
        exact Nat.le_trans (List.length_filter_le _ _) l4
      show tSeq _ _ _ [_, _, _, _, _, _, _, _, _, _, _, _, _] _
      refine ⟨_, rfl, rk, rfl, by omega, by omega, ?_⟩
      refine for_it walk_range (fun i σ Hx => (∃ y7 y8 y9 y10 y11 y12 : Option V, σ = [some (.ref l), some (.ref st), some (.ref bd), some (.int p), some (.ref f), some (.int (rk : Int)), some (.int (p ^ i)), y7, y8, y9, y10, y11, y12]) ∧ Hx = H6) ⟨⟨_, _, _, _, _, _, by rw [Int.pow_zero]; rfl⟩, rfl⟩ (fun _ _ _ _ _ => True.intro) ?_ ?_
      · rintro i x σ _ Hx hi ⟨⟨y7, y8, y9, y10, y11, y12, rfl⟩, rfl⟩ ⟨rfl, rfl⟩
        obtain ⟨b1, b2⟩ := pow_300 (p := p) (by omega) (by omega) i (by omega)
        dsimp only [gName]
        refine ⟨_, rfl, _, rfl, _, _, rfl, rfl, ?_, ?_⟩
        · exact (wide_mul (a := 40) (b := 40) (show (p ^ i).natAbs < 2 ^ 40 by show _ < 1099511627776; omega) (show p.natAbs < 2 ^ 40 by show _ < 1099511627776; omega) (by decide) (by decide) (by decide)).ok
        exact ⟨⟨_, _, _, _, _, _, by rw [Int.pow_succ]; rfl⟩, rfl⟩
      rintro σ Hx ⟨⟨y7, y8, y9, y10, y11, y12, rfl⟩, rfl⟩
      rw [show ((rk : Int).toNat) = rk from rfl]
      dsimp only
      refine ⟨_, rfl, f, zs, rfl, .inl (SqL.of hf6), _, rfl, _, _, rfl, rfl, rfl, _, rfl, itf ?_ ?_⟩
      · rw [show ((zs.length : Int)) = p ^ rk - 1 by omega]
        show (!decide (V.int (p ^ rk - 1) = V.int (p ^ rk - 1))) = false
        simp
      have szs : ∀ d ∈ ds, (d.length : Int) * p = prodL ns := fun d hd => by
        obtain ⟨ws, r, hw, r0, r1, _, rfl⟩ := (mem_avs76 (by omega)).mp (mds d hd)
        exact cls_size one L hw r0 r1
      refine ⟨_, rfl, f, rfl, ⟨_, SqL.of hf6⟩, fun D2 hD2 => ?_⟩
      have lz300 : zs.length ≤ 10000000 := by
        obtain ⟨b1, b2⟩ := pow_300 (p := p) (by omega) (by omega) rk rk4
        have := chL_prod (p := p) (by omega) one
        rw [chprod, hrk] at this
        omega
      refine lc_filt (walk_list (xs := zs)) zs (fun _ => false) (fun _ => .int 1) rfl lz300 hD2 (fun _ e => SqL.of (e _ _ hf6)) ?_ ?_
      · rintro j x v Ha _ R S ha ea ⟨rfl, hx⟩ kR kS
        obtain ⟨d, hd, a, rfl, _, us, h1, h2⟩ := paired_get rz6 hx
        have hsz := szs d (List.mem_of_getElem? hd)
        have lu : us.length = d.length := h2.len
        have d0 : 0 ≤ (d.length : Int) := by omega
        have dl : (d.length : Int) ≤ 300 := by
          have : (d.length : Int) * 1 ≤ (d.length : Int) * p := Int.mul_le_mul_of_nonneg_left (by omega) d0
          omega
        obtain ⟨dt, t, g1, g2⟩ := id tab6
        refine ⟨rfl, ?_⟩
        refine ⟨_, rfl, a, _, rfl, .inl (SqL.of (ea _ _ h1)), _, rfl, _, _, rfl, rfl, ?_, ?_⟩
        · exact (wide_mul (a := 40) (b := 40) (show ((us.length : Nat) : Int).natAbs < 2 ^ 40 by show _ < 1099511627776; omega) (show p.natAbs < 2 ^ 40 by show _ < 1099511627776; omega) (by decide) (by decide) (by decide)).ok
        refine ⟨_, rfl, bd, dt, _, rfl, ea _ _ g1, rfl, bd, ns, rfl, tab6.mono ea, ok, by omega, rfl, _, rfl, itf ?_ (kS _ exr rfl)⟩
        rw [lu]
        show (!decide (V.int ((d.length : Int) * p) = V.int (prodL ns))) = false
        rw [hsz]
        simp
      intro H7 e7 hD7
      rw [show (zs.filter fun _ => false) = [] from List.filter_eq_nil_iff.mpr fun _ _ => by simp] at hD7
      refine ⟨slen rfl, ?_⟩
      (intro b0 nb0; generalize hGb0 : upd _ b0 _ = H8; have eH8 := exG hGb0 nb0; have hb0 := atG hGb0; clear hGb0)
      refine ⟨iL [], iL [], dp_ilist (eH8 _ _ hD7), dp_ilist hb0, (sh_ilist (n := 59) _).ok, (sh_ilist (n := 59) _).ok, _, rfl, itf (by decide) ?_⟩
      have E8 := ext E6 (ext e7 eH8)
      have hf8 := (ext e7 eH8) _ _ hf6
      have rz8 : SetR (fun a => H3 a = none ∧ a ≠ f) H8 zs ds := paired_mono (fun v d ⟨a, e, b, r⟩ => ⟨a, e, b, r.mono (ext e7 eH8)⟩) rz6
      have tab8 := tab6.mono (ext e7 eH8)
      have F8 : Ex H3 H8 := ext F6 (ext e7 eH8)
      clear rz6 hf6 tab6 E6 e7 eH8 hD7 hb0 hD2
      dsimp only [tNext]
      unfold tNoPart
      refine ⟨_, rfl, _, rfl, f, zs, rfl, SqL.of hf8, ?_⟩
      (intro ft nft; generalize hGft : upd _ ft _ = H9; have eH9 := exG hGft nft; have hft := atG hGft; clear hGft)
      obtain ⟨bs, rbs, sub⟩ := sets_cut none (some 6) rz8
      have mbs : ∀ d, d ∈ bs → d ∈ avsL ns s p := fun d hd => mds d (sub.subset hd)
      have hft : H9 ft = some (.lst (cutV zs none (some 6))) := hft
      generalize hfs : cutV zs none (some 6) = fs at hft rbs
      have E9 := ext E8 eH9
      have rb9 : SetR (fun a => H3 a = none ∧ a ≠ f) H9 fs bs := paired_mono (fun v d ⟨a, e, b, r⟩ => ⟨a, e, b, r.mono eH9⟩) rbs
      have hf9 := eH9 _ _ hf8
      refine ⟨ft, rfl, ⟨_, SqL.of hft⟩, ?_⟩
      refine for_it (walk_list (xs := fs)) (fun i σ Hx => (∃ y7 y8 y9 y10 y11 y12 : Option V, σ = [some (.ref l), some (.ref st), some (.ref bd), some (.int p), some (.ref f), some (.int (rk : Int)), some (.int (p ^ rk)), y7, y8, y9, y10, y11, y12]) ∧ Ex H9 Hx) ⟨⟨_, _, _, _, _, _, rfl⟩, exr⟩ (fun i σ Hx _ q => SqL.of (q.2 _ _ hft)) ?_ ?_
      · rintro i x σ _ Hx hi ⟨⟨y7, y8, y9, y10, y11, y12, rfl⟩, ex⟩ ⟨rfl, hx⟩
        obtain ⟨d1, hd1, a1, rfl, _, ra1⟩ := paired_get rb9 hx
        have md1 := mbs d1 (List.mem_of_getElem? hd1)
        dsimp only [gName]
        refine ⟨_, rfl, _, rfl, f, zs, rfl, SqL.of (ex _ _ hf9), ?_⟩
        (intro gt ngt; generalize hGgt : upd _ gt _ = Ha; have eHa := exG hGgt ngt; have hgt := atG hGgt; clear hGgt)
        have hgt : Ha gt = some (.lst fs) := by rw [← hfs]; exact hgt
        have exa := ext ex eHa
        refine ⟨gt, rfl, ⟨_, SqL.of hgt⟩, ?_⟩
        refine for_it (walk_list (xs := fs)) (fun i σ Hy => (∃ y7 y9 y10 y11 y12 : Option V, σ = [some (.ref l), some (.ref st), some (.ref bd), some (.int p), some (.ref f), some (.int (rk : Int)), some (.int (p ^ rk)), y7, some (.ref a1), y9, y10, y11, y12]) ∧ Ex Ha Hy) ⟨⟨_, _, _, _, _, rfl⟩, exr⟩ (fun i σ Hy _ q => SqL.of (q.2 _ _ hgt)) ?_ ?_
        · rintro j x σ _ Hy hj ⟨⟨z7, z9, z10, z11, z12, rfl⟩, ey⟩ ⟨rfl, hx2⟩
          obtain ⟨d2, hd2, a2, rfl, _, ra2⟩ := paired_get rb9 hx2
          have md2 := mbs d2 (List.mem_of_getElem? hd2)
          have E9y := ext exa ey
          obtain ⟨us, h1, h2⟩ := ra1.mono E9y
          have lus := h2.len
          dsimp only [gName]
          refine ⟨_, rfl, a1, rfl, ⟨_, SqL.of h1⟩, fun D3 hD3 => ?_⟩
          obtain ⟨us2, h12, h22⟩ := ra2.mono E9y
          have d1l : d1.length ≤ 300 := by
            have h := szs d1 (by rw [← hds] at *; exact (List.mergeSort_perm _ _).mem_iff.mpr md1)
            have d0 : 0 ≤ (d1.length : Int) := by omega
            have : (d1.length : Int) * 1 ≤ (d1.length : Int) * p := Int.mul_le_mul_of_nonneg_left (by omega) d0
            omega
          refine lc_filt (walk_list (xs := us)) (us.zip d1) (fun a => decide (a.2 ∈ d2)) (fun a => a.1) (by rw [List.length_zip]; omega) (by omega) hD3 (fun _ e => SqL.of (e _ _ h1)) ?_ ?_
          · rintro t x a Hb _ R S ha eb ⟨rfl, hx3⟩ kR kS
            obtain ⟨q, r0, hq, rfl, hr0⟩ := h2.get hx3
            have eqa : a = (V.ref r0, q) := by
              rw [List.getElem?_zip_eq_some] at ha
              rw [hx3, hq] at ha
              exact Prod.ext (Option.some.inj ha.1).symm (Option.some.inj ha.2).symm
            subst eqa
            refine ⟨rfl, _, rfl, _, rfl, in_rowsD (eb _ _ hr0) (RowsAt.mono eb ⟨us2, h12, h22⟩) ⟨_, rfl, ?_⟩⟩
            by_cases c : q ∈ d2
            · rw [decide_eq_true c]
              exact ⟨_, rfl, kR _ _ exr (decide_eq_true c) rfl⟩
            · rw [decide_eq_false c]
              exact kS _ exr (decide_eq_false c)
          intro Hb eb hDb
          refine ⟨D3, _, rfl, .inl (SqL.of hDb), ?_⟩
          rw [List.length_map, show ((us.zip d1).filter fun a => decide (a.2 ∈ d2)).length = (d1.filter fun x => decide (x ∈ d2)).length from filt_zip (fun x => decide (x ∈ d2)) lus]
          have E9b := ext E9y eb
          dsimp only [gName]
          refine ⟨_, rfl, _, rfl, encR d1, encR d2, dp_rowsAt (ra1.mono E9b), dp_rowsAt (ra2.mono E9b), (sh_encR (n := 58) _).ok, (sh_encR (n := 58) _).ok, _, rfl, ?_⟩
          rw [show PyData.eqv (encR d1) (encR d2) = decide (d1 = d2) from eqv_rows _ _]
          by_cases ed : d1 = d2
          · refine itf (by simp [ed]) ?_
            exact itf rfl ⟨⟨_, _, _, _, _, rfl⟩, ext ey eb⟩
          have two := share_two one L md1 md2 ed
          refine itt (by simp [ed]) ?_
          obtain ⟨dt, t, g1, g2⟩ := id tab8
          have E8b := ext eH9 E9b
          have lg : p.natAbs.log2 < 9000 := Nat.lt_of_le_of_lt (Nat.log2_le_self _) (by omega)
          refine ⟨_, rfl, _, rfl, bd, dt, _, rfl, E8b _ _ g1, rfl, bd, ns, rfl, tab8.mono E8b, ok, by omega, ?_⟩
          refine ⟨_, rfl, _, _, rfl, rfl, ⟨by omega, lg⟩, _, rfl, _, _, rfl, rfl, ⟨by omega, lg⟩, slen rfl, ?_⟩
          (intro tw ntw; generalize hGtw : upd _ tw _ = Hc; have eHc := exG hGtw ntw; have htw := atG hGtw; clear hGtw)
          refine ⟨tw, _, rfl, .inr (SqT.of htw), rfl, rfl, _, rfl, itf ?_ ⟨⟨_, _, _, _, _, rfl⟩, ext ey (ext eb eHc)⟩⟩
          show (!inV (V.int ((d1.filter fun x => decide (x ∈ d2)).length : Int)) [V.int 0, V.int (prodL ns / p / p)]) = false
          rcases two with e | e <;> (rw [e]; simp [inV, eqV])
        rintro σ Hy ⟨⟨z7, z9, z10, z11, z12, rfl⟩, ey⟩
        exact ⟨⟨_, _, _, _, _, _, rfl⟩, ext exa ey⟩
      rintro σ Hx ⟨⟨y7, y8, y9, y10, y11, y12, rfl⟩, ex⟩
      have rk1 : 1 ≤ rk := by
        obtain ⟨n, hn, hd⟩ := prime_ring L L.dvd
        rw [← hrk]
        exact List.length_pos_iff.mpr (List.ne_nil_of_mem (List.mem_filter.mpr ⟨hn, decide_eq_true hd⟩))
      have pw : p ≤ p ^ rk := by
        obtain ⟨q, rfl⟩ : ∃ q, rk = q + 1 := ⟨rk - 1, by omega⟩
        obtain ⟨b1, _⟩ := pow_300 (p := p) (by omega) (by omega) q (by omega)
        rw [Int.pow_succ]
        have : 1 * p ≤ p ^ q * p := Int.mul_le_mul_of_nonneg_right b1 (by omega)
        omega
      have rzx : SetR (fun a => H3 a = none ∧ a ≠ f) Hx zs ds := paired_mono (fun v d ⟨a, e, b, r⟩ => ⟨a, e, b, r.mono (ext eH9 ex)⟩) rz8
      have hfx := ex _ _ hf9
      have Fx : Ex H3 Hx := ext F8 (ext eH9 ex)
      have lz2 : zs.length ≤ 300 := by
        have := chL_prod (p := p) (by omega) one
        rw [chprod, hrk] at this
        omega
      obtain ⟨v0, zs', rfl⟩ : ∃ v zs', zs = v :: zs' := by
        cases zs with
        | nil => simp only [List.length_nil] at lzs; omega
        | cons v zs' => exact ⟨v, zs', rfl⟩
      obtain ⟨d0, _, a0, rfl, ⟨na0, naf⟩, us, h1, _⟩ := paired_get rzx (show (v0 :: zs')[0]? = some v0 from rfl)
      dsimp only
      refine ⟨_, rfl, f, _, _, _, rfl, rfl, SqL.of hfx, L2.atI_nat (show (V.ref a0 :: zs')[0]? = some (V.ref a0) from rfl), .inl ⟨rfl, _, SqL.of h1⟩, a0, _, rfl, rfl, h1, ?_⟩
      generalize hGa : upd Hx a0 _ = Ha
      have Fa : Ex H3 Ha := by rw [← hGa]; exact ex_upd Fx na0
      have hfa : Ha f = some (.lst (V.ref a0 :: zs')) := by rw [← hGa, upd_ne naf.symm]; exact hfx
      clear hGa
      dsimp only [tNext]
      refine ⟨_, rfl, .inl ⟨rfl, _, SqL.of hfa⟩, f, _, _, rfl, rfl, hfa, ?_, ?_⟩
      · exact Nat.lt_of_le_of_lt lz2 (by decide)
      generalize hGb : upd Ha f _ = Hb
      have Fb : Ex H3 Hb := by rw [← hGb]; exact ex_upd Fa nf
      clear hGb
      have Eb := ext E3 Fb
      dsimp only [tNext]
      refine ⟨_, rfl, _, rfl, rfl, bd, st, ns, s, rfl, tab3.mono Fb, ok, pr, Eb _ _ hst, ss, fun f2 z2 H12 e12 nf2 hf2 rz2 => ?_⟩
      rw [ea] at rz2
      have E12 := ext Eb e12
      refine ⟨_, rfl, _, rfl, _, rfl, l, st, ns, s, p, rfl, E12 _ _ hl, ok, pr, E12 _ _ hst, ss, L, fun g2 y2 H13 e13 ng2 hg2 ry2 => ?_⟩
      exact eq_sets (e13 _ _ hf2) (paired_mono (fun v d ⟨a, e, b, r⟩ => ⟨a, e, b, r.mono e13⟩) rz2) hg2 ry2 (k _ (ext E12 e13))
end

/-- a comprehension of new objects with a test -/
theorem lc_newF {α : Type} (Pd : Hp → V → α → Prop) (mono : ∀ (H H2 : Hp) (v : V) (a : α), (∀ c xs, H c = some (.tup xs) → H2 c = some (.tup xs)) → Pd H v a → Pd H2 v a)
    {J : It} {n : Nat} {G : Hp → Prop} {Y : Nat → Hp → V → Hp → Prop} (w : Walk J n G Y) {g : TG} {tt : TT} {te : TE} {vs : List Nat} {σ : L2.St} {H1 : Hp} {D : Addr} {Qd : Hp → Prop} (as : List α) (c : α → Bool) (hn : as.length = n) (hl : n ≤ 10000000) (hD : H1 D = none)
    (hG : ∀ H, Ex H1 H → G H)
    (hs : ∀ i x a H H2 (R : VK) (S : Hp → Prop), as[i]? = some a → Ex H1 H → Y i H x H2 → (∀ v H5, Ex H H5 → c a = true → Pd H5 v a → R v H5) → (∀ H4, Ex H H4 → c a = false → S H4) → g x (wipe σ vs) H2 fun σ2 H3 => wipe σ2 vs = wipe σ vs ∧ tt σ2 H3 fun b H4 => if b = true then te σ2 H4 R else S H4)
    (hd : ∀ H xs, Ex H1 H → H D = some (.lst xs) → Paired (Pd H) xs (as.filter c) → Qd H) :
    ∃ W : Nat → Nat → Hp → Prop, (∃ m, W 0 m (upd H1 D (.lst []))) ∧ ∀ i m H, W i m H →
      (J.stop i H ∧ Qd H) ∨ (J.go i H ∧ ∃ Nx : Hp → Prop, (∀ H2, Nx H2 → ∃ m2, m2 < m ∧ W (i + 1) m2 H2) ∧ ∀ x H2, J.yld i H x H2 → g x (wipe σ vs) H2 fun σ2 H3 => wipe σ2 vs = wipe σ vs ∧ tt σ2 H3 fun b H4 =>
        if b = true then te σ2 H4 fun y H5 => ∃ acc, H5 D = some (.lst acc) ∧ acc.length < sizeLine ∧ Nx (upd H5 D (.lst (acc ++ [y]))) else Nx H4) := by
  refine lc_it w (fun i H => Ex H1 H ∧ ∃ xs, H D = some (.lst xs) ∧ Paired (Pd H) xs ((as.take i).filter c)) ⟨exn hD, [], upd_same, .nil⟩ (fun i H _ p => hG H p.1) (fun i x H H2 hi p y => ?_) (fun H p => ?_)
  · obtain ⟨a, ha⟩ : ∃ a, as[i]? = some a := ⟨as[i]'(by omega), List.getElem?_eq_getElem (by omega)⟩
    obtain ⟨p1, xs, p2, p3⟩ := p
    refine hs i x a H H2 _ (fun H3 => Ex H1 H3 ∧ ∃ xs, H3 D = some (.lst xs) ∧ Paired (Pd H3) xs ((as.take (i + 1)).filter c)) ha p1 y (fun v H5 e hc hv => ?_) (fun H4 e hc => ?_)
    · have tp : ∀ c zs, H5 c = some (.tup zs) → upd H5 D (.lst (xs ++ [v])) c = some (.tup zs) := fun c zs z => by
        rw [upd_ne (ne_of z (e _ _ p2) (by intro q; cases q))]
        exact z
      refine ⟨xs, e _ _ p2, ?_, ex_upd (ext p1 e) hD, xs ++ [v], upd_same, ?_⟩
      · rw [Paired.length p3]
        refine Nat.lt_of_le_of_lt (Nat.le_trans (List.length_filter_le _ _) ?_) (show 10000000 < sizeLine by decide)
        rw [List.length_take]
        omega
      · rw [take_more ha, List.filter_append, show [a].filter c = [a] by simp [hc]]
        exact paired_snoc (mono _ _ _ _ tp hv) (paired_mono (fun v a q => mono _ _ _ _ tp (mono _ _ _ _ (fun c zs z => e _ _ z) q)) p3)
    · refine ⟨ext p1 e, xs, e _ _ p2, ?_⟩
      rw [take_more ha, List.filter_append, show [a].filter c = [] by simp [hc], List.append_nil]
      exact paired_mono (fun v a q => mono _ _ _ _ (fun c zs z => e _ _ z) q) p3
  · obtain ⟨p1, xs, p2, p3⟩ := p
    rw [List.take_of_length_le (by omega)] at p3
    exact hd H xs p1 p2 p3
/-- .. of new objects of any kind, beside the list itself -/
theorem lc_newG {α : Type} {D : Addr} (Pd : Hp → V → α → Prop) (mono : ∀ (H H2 : Hp) (v : V) (a : α) (ys : List V), H D = some (.lst ys) → (∀ c o, c ≠ D → H c = some o → H2 c = some o) → Pd H v a → Pd H2 v a)
    {J : It} {n : Nat} {G : Hp → Prop} {Y : Nat → Hp → V → Hp → Prop} (w : Walk J n G Y) {g : TG} {tt : TT} {te : TE} {vs : List Nat} {σ : L2.St} {H1 : Hp} {Qd : Hp → Prop} (as : List α) (c : α → Bool) (hn : as.length = n) (hl : n ≤ 10000000) (hD : H1 D = none)
    (hG : ∀ H, Ex H1 H → G H)
    (hs : ∀ i x a H H2 (R : VK) (S : Hp → Prop), as[i]? = some a → Ex H1 H → (∃ ys, H D = some (.lst ys)) → Y i H x H2 → (∀ v H5, Ex H H5 → c a = true → Pd H5 v a → R v H5) → (∀ H4, Ex H H4 → c a = false → S H4) → g x (wipe σ vs) H2 fun σ2 H3 => wipe σ2 vs = wipe σ vs ∧ tt σ2 H3 fun b H4 => if b = true then te σ2 H4 R else S H4)
    (hd : ∀ H xs, Ex H1 H → H D = some (.lst xs) → Paired (Pd H) xs (as.filter c) → Qd H) :
    ∃ W : Nat → Nat → Hp → Prop, (∃ m, W 0 m (upd H1 D (.lst []))) ∧ ∀ i m H, W i m H →
      (J.stop i H ∧ Qd H) ∨ (J.go i H ∧ ∃ Nx : Hp → Prop, (∀ H2, Nx H2 → ∃ m2, m2 < m ∧ W (i + 1) m2 H2) ∧ ∀ x H2, J.yld i H x H2 → g x (wipe σ vs) H2 fun σ2 H3 => wipe σ2 vs = wipe σ vs ∧ tt σ2 H3 fun b H4 =>
        if b = true then te σ2 H4 fun y H5 => ∃ acc, H5 D = some (.lst acc) ∧ acc.length < sizeLine ∧ Nx (upd H5 D (.lst (acc ++ [y]))) else Nx H4) := by
  refine lc_it w (fun i H => Ex H1 H ∧ ∃ xs, H D = some (.lst xs) ∧ Paired (Pd H) xs ((as.take i).filter c)) ⟨exn hD, [], upd_same, .nil⟩ (fun i H _ p => hG H p.1) (fun i x H H2 hi p y => ?_) (fun H p => ?_)
  · obtain ⟨a, ha⟩ : ∃ a, as[i]? = some a := ⟨as[i]'(by omega), List.getElem?_eq_getElem (by omega)⟩
    obtain ⟨p1, xs, p2, p3⟩ := p
    refine hs i x a H H2 _ (fun H3 => Ex H1 H3 ∧ ∃ xs, H3 D = some (.lst xs) ∧ Paired (Pd H3) xs ((as.take (i + 1)).filter c)) ha p1 ⟨xs, p2⟩ y (fun v H5 e hc hv => ?_) (fun H4 e hc => ?_)
    · have tp : ∀ c o, c ≠ D → H5 c = some o → upd H5 D (.lst (xs ++ [v])) c = some o := fun c o n z => by
        rw [upd_ne n]
        exact z
      refine ⟨xs, e _ _ p2, ?_, ex_upd (ext p1 e) hD, xs ++ [v], upd_same, ?_⟩
      · rw [Paired.length p3]
        refine Nat.lt_of_le_of_lt (Nat.le_trans (List.length_filter_le _ _) ?_) (show 10000000 < sizeLine by decide)
        rw [List.length_take]
        omega
      · rw [take_more ha, List.filter_append, show [a].filter c = [a] by simp [hc]]
        exact paired_snoc (mono _ _ _ _ _ (e _ _ p2) tp hv) (paired_mono (fun v a q => mono _ _ _ _ _ (e _ _ p2) tp (mono _ _ _ _ _ p2 (fun c o _ z => e _ _ z) q)) p3)
    · refine ⟨ext p1 e, xs, e _ _ p2, ?_⟩
      rw [take_more ha, List.filter_append, show [a].filter c = [] by simp [hc], List.append_nil]
      exact paired_mono (fun v a q => mono _ _ _ _ _ p2 (fun c o _ z => e _ _ z) q) p3
  · obtain ⟨p1, xs, p2, p3⟩ := p
    rw [List.take_of_length_le (by omega)] at p3
    exact hd H xs p1 p2 p3
/-- a new list of tuples of ints -/
def PdRows (D : Addr) (H : Hp) (v : V) (row : List (List Int)) : Prop := ∃ a, v = V.ref a ∧ a ≠ D ∧ RowsAt H a row
theorem pdrows_mono {D : Addr} (H H2 : Hp) (v : V) (row : List (List Int)) (ys : List V) (hD : H D = some (.lst ys)) (e : ∀ c o, c ≠ D → H c = some o → H2 c = some o) (h : PdRows D H v row) : PdRows D H2 v row := by
  obtain ⟨a, h1, h2, xs, h3, h4⟩ := h
  exact ⟨a, h1, h2, xs, e _ _ h2 h3, paired_mono (fun v hs ⟨r, q1, q2⟩ => ⟨r, q1, e _ _ (ne_of q2 hD (by intro z; cases z)) q2⟩) h4⟩

section
variable {P : Program} {w : World} {K : PySem.W.Frag} {mg : Str → Option Value} {base : Heap}
/-- a cut list of ints is one -/
theorem cut_ints (ns : List Int) (lo hi : Option Int) : ∃ ms : List Int, cutV (ns.map V.int ++ [V.int 0]) lo hi = ms.map V.int := by
  refine ⟨((ns ++ [0]).drop (HT.sIx (ns.map V.int ++ [V.int 0]).length 0 lo)).take (HT.sIx (ns.map V.int ++ [V.int 0]).length (ns.map V.int ++ [V.int 0]).length hi - HT.sIx (ns.map V.int ++ [V.int 0]).length 0 lo), ?_⟩
  unfold cutV
  rw [List.map_take, List.map_drop, List.map_append]
  rfl
end
theorem cut_of (ns : List Int) (lo hi : Option Int) : ∃ ms : List Int, cutV (ns.map V.int) lo hi = ms.map V.int ∧ ms.length ≤ ns.length := by
  refine ⟨(ns.drop (HT.sIx (ns.map V.int).length 0 lo)).take (HT.sIx (ns.map V.int).length (ns.map V.int).length hi - HT.sIx (ns.map V.int).length 0 lo), ?_, ?_⟩
  · unfold cutV
    rw [List.map_take, List.map_drop]
  · rw [List.length_take, List.length_drop]
    omega

def PdSet (D : Addr) (H : Hp) (v : V) (d : List (List Int)) : Prop := ∃ a, v = .ref a ∧ RowsAt H a d ∧ a ≠ D
theorem pdset_mono {D : Addr} (H H2 : Hp) (v : V) (g : List (List Int)) (zs : List V) (hD : H D = some (.lst zs)) (e : ∀ c o, c ≠ D → H c = some o → H2 c = some o) (q : PdSet D H v g) : PdSet D H2 v g := by
  obtain ⟨a, q1, ⟨xs, h1, h2⟩, nD⟩ := q
  exact ⟨a, q1, ⟨xs, e _ _ nD h1, h2.monoT fun _ _ z => e _ _ (ne_of z hD (by intro z; cases z)) z⟩, nD⟩
theorem yes_if {σ : L2.St} {H : Hp} {A B : Hp → Prop} (h : A H) : tYes σ H fun b H4 => if b = true then A H4 else B H4 := (itt rfl h : if true = true then A H else B H)
def oneL (f : Int) : List (List Int) := (List.range 100).map fun (i : Nat) => [f + (i : Int) * 3]
theorem av_300 : (avL [300] [0]).mergeSort leR = [oneL 1, oneL 2] := by
  have e : avL [300] [0] = [oneL 1, oneL 2] := by decide +kernel
  rw [e]
  refine List.Perm.eq_of_pairwise (le := fun a b => leR a b = true) (fun a b _ _ h1 h2 => leR_anti h1 h2) (List.pairwise_mergeSort leR_trans leR_total _) ?_ (List.mergeSort_perm _ leR)
  refine List.pairwise_cons.mpr ⟨fun b hb => ?_, List.pairwise_singleton _ _⟩
  rw [List.mem_singleton.mp hb, leR_is]
  decide +kernel
section
variable {P : Program} {w : World} {K : PySem.W.Frag} {mg : Str → Option Value} {base : Heap}
def sp_law (K : PySem.W.Frag) : Sp := fun vs H Q _ => ∃ (a : Addr) (ns : List Int), vs = [.ref a] ∧ SqL K H a (ns.map V.int) ∧ ns.length ≤ 63 ∧ ∀ H2, Q (.bl true) H2
theorem ok_law (T : TX K mg) : FnOk P w K mg base CX0 8 T.f_law T.fd_law ["_law_script"] (sp_law K) := by
  refine T.F_law.ok sc_law (fun vs H Q E h => ?_) (fun cdv A outer s H vs Q E hr h => ?_)
  · obtain ⟨a, ns, rfl, _⟩ := h
    rfl
  · obtain ⟨a, ns, rfl, hS, hlen, k⟩ := h
    refine ⟨_, (pss_cons (ps_for PassesOwn.never rfl (pi_list (pe_slice sl_list (pe_op (r := rCatR K) op_catR (pv 0) (pe_lst (pa_cons pe_int pa_nil))) po_none (po_some pe_int))) (pg_name (i := 1) sc_law.nd rfl (Or.inl rfl)) (pss_cons (ps_set (i := 2) sc_law.nd rfl (Or.inl rfl) (pe_call (ok_law_source T) (hr.mono (by decide)) rfl T.m_law_source T.F_law_source.kp T.b_law_source .nil pass0 (pa_cons (pv 1) pa_nil))) (pss_cons (ps_set (i := 3) sc_law.nd rfl (Or.inl rfl) (pe_call (ok_law_one T) (hr.mono (by decide)) rfl T.m_law_one T.F_law_one.kp T.b_law_one .nil pass0 (pa_cons (pv 2) (pa_cons (pe_lst (pa_cons (pe_call (ok_law_rings T) (hr.mono (by decide)) rfl T.m_law_rings T.F_law_rings.kp T.b_law_rings .nil pass0 (pa_cons (pv 2) (pa_cons pe_int pa_nil))) (pa_cons (pe_tup (pa_cons pe_int (pa_cons pe_int pa_nil))) (pa_cons (pe_tup (pa_cons pe_int (pa_cons pe_int (pa_cons pe_int pa_nil)))) (pa_cons (pe_tup (pa_cons pe_int (pa_cons pe_int (pa_cons pe_int pa_nil)))) (pa_cons (pe_tup (pa_cons pe_int (pa_cons pe_int pa_nil))) (pa_cons (pe_tup (pa_cons pe_int (pa_cons pe_int (pa_cons pe_int (pa_cons pe_int pa_nil))))) pa_nil))))))) pa_nil)))) (pss_one (ps_if (pt_not (pt_val (pe_call (ok_law_right T) hr rfl T.m_law_right T.F_law_right.kp T.b_law_right .nil pass0 (pa_cons (pv 3) (pa_cons (pe_call (ok_law_seat T) (hr.mono (by decide)) rfl T.m_law_seat T.F_law_seat.kp T.b_law_seat .nil pass0 (pa_cons (pv 2) (pa_cons (pv 3) pa_nil))) pa_nil))))) (pss_one (ps_ret pe_bl)) pss_nil))))) (pss_cons (ps_setLc (own := [("_law_first", 5)]) (g := (gName 5)) (i := 4) rfl sc_law.nd rfl rfl (sw_true rfl rfl rfl (by decide +kernel)) (pi_tup (pe_tup (pa_cons pe_int (pa_cons pe_int pa_nil)))) (blkOk_by (N := N_law) (sc := defScope s_law) (by decide +kernel)) (fun _ _ _ _ _ => (pg_name (i := 5) sc_law.nd rfl (Or.inl rfl))) (fun _ _ _ _ _ => pts_nil) (fun _ _ _ _ _ => (pe_lc (own := [("_law_place", 6)]) (g := (gName 6)) rfl sc_law.nd (pi_range3 rfl T.z_range (pa_cons (pv 5) (pa_cons pe_int (pa_cons pe_int pa_nil)))) (blkOk_by (N := N_law) rfl) (fun _ _ _ _ _ => (pg_name (i := 6) sc_law.nd rfl (Or.inl rfl))) (fun _ _ _ _ _ => pts_nil) (fun _ _ _ _ _ => (pe_tup (pa_cons (pv 6) pa_nil)))))) (pss_one (ps_ret (pe_cmpR (r := rEqD K) (op_eqD hr.units) (pe_call (ok_avoided_sets T) (hr.mono (by decide)) rfl T.m_avoided_sets T.F_avoided_sets.kp T.b_avoided_sets .nil pass0 (pa_cons (pe_make T.M_Table (ok_Table_init T) (hr.mono (by decide)) rfl T.m_Table T.b_Table_init .nil pass0 (pa_cons (pe_lst (pa_cons pe_int pa_nil)) pa_nil)) (pa_cons (pe_tup (pa_cons pe_int pa_nil)) pa_nil))) (pv 4) (nomark _)))))), ?_⟩
    refine ⟨_, rfl, by show 1 ≤ sizeLine; decide, fun b hb => ?_⟩
    have e1 := exn (o := .lst [.int 0]) hb
    refine ⟨a, b, _, _, rfl, rfl, Evl.ex_l e1 hS, SqL.of upd_same, ?_, fun c hc => ?_⟩
    · rw [List.length_map]
      exact Nat.le_trans (Nat.add_le_add_right hlen 1) (by decide)
    refine ⟨_, rfl, c, _, rfl, SqL.of upd_same, fun d hd => ?_⟩
    obtain ⟨ms, em⟩ := cut_ints ns none (some 4)
    have e3 : upd (upd (upd H b (.lst [.int 0])) c (.lst (ns.map V.int ++ [V.int 0]))) d (.lst (cutV (ns.map V.int ++ [V.int 0]) none (some 4))) d = some (.lst (ms.map V.int)) := by rw [upd_same, em]
    refine ⟨d, rfl, ⟨_, SqL.of e3⟩, ?_⟩
    refine for_it (walk_list (xs := ms.map V.int)) (fun i σ H => (∃ y1 y2 y3 y4 y5 y6, σ = [some (.ref a), y1, y2, y3, y4, y5, y6]) ∧ H d = some (.lst (ms.map V.int))) ⟨⟨_, _, _, _, _, _, rfl⟩, e3⟩ (fun i σ H _ p => SqL.of p.2) ?_ ?_
    · rintro i x σ _ H1 hi ⟨⟨y1, y2, y3, y4, y5, y6, rfl⟩, hd1⟩ ⟨rfl, hx⟩
      obtain ⟨n, _, rfl⟩ := map_get hx
      refine ⟨_, rfl, n, rfl, fun H2 s e2 hs src => ?_⟩
      have nds : d ≠ s := ne_of_none hd1 hs
      have hd2 := e2 _ _ hd1
      dsimp only [gName]
      refine ⟨_, rfl, _, rfl, s, 90, rfl, src, by decide, by decide, fun t ns1 H3 nt ht ok b31 pr xb3 src3 => ?_⟩
      have pr : prodL ns1 ≤ 300 := Int.le_trans (show prodL ns1 ≤ 90 from pr) (by decide)
      refine ⟨slen rfl, ?_⟩
      (intro t1 nt1; generalize hGt1 : upd _ t1 _ = Ha; have eHa := exG hGt1 nt1; have ht1 := atG hGt1; clear hGt1)
      refine ⟨slen rfl, ?_⟩
      (intro t2 nt2; generalize hGt2 : upd _ t2 _ = Hb; have eHb := exG hGt2 nt2; have ht2 := atG hGt2; clear hGt2)
      refine ⟨slen rfl, ?_⟩
      (intro t3 nt3; generalize hGt3 : upd _ t3 _ = Hc; have eHc := exG hGt3 nt3; have ht3 := atG hGt3; clear hGt3)
      refine ⟨slen rfl, ?_⟩
      (intro t4 nt4; generalize hGt4 : upd _ t4 _ = Hd; have eHd := exG hGt4 nt4; have ht4 := atG hGt4; clear hGt4)
      refine ⟨slen rfl, ?_⟩
      (intro t5 nt5; generalize hGt5 : upd _ t5 _ = He; have eHe := exG hGt5 nt5; have ht5 := atG hGt5; clear hGt5)
      refine ⟨slen rfl, ?_⟩
      (intro tl ntl; generalize hGtl : upd _ tl _ = Hf; have eHf := exG hGtl ntl; have htl := atG hGtl; clear hGtl)
      have E3 := ext eHa (ext eHb (ext eHc (ext eHd (ext eHe eHf))))
      have src4 := src3.mono E3
      have ntl : tl ≠ s := (src3.mono (ext eHa (ext eHb (ext eHc (ext eHd eHe))))).ne ntl
      have all : ∀ v ∈ [V.ref t, V.ref t1, V.ref t2, V.ref t3, V.ref t4, V.ref t5], ∃ q ns2, v = .ref q ∧ Hf q = some (.tup (List.map V.int ns2)) ∧ SzOk ns2 ∧ prodL ns2 ≤ 300 := fun v hv => by
        simp only [List.mem_cons, List.not_mem_nil, or_false] at hv
        rcases hv with rfl | rfl | rfl | rfl | rfl | rfl
        · exact ⟨t, ns1, rfl, E3 _ _ ht, ok, pr⟩
        · exact ⟨t1, [3, 3], rfl, (ext eHb (ext eHc (ext eHd (ext eHe eHf)))) _ _ ht1, ⟨by decide, by decide, by decide⟩, by decide⟩
        · exact ⟨t2, [9, 3, 2], rfl, (ext eHc (ext eHd (ext eHe eHf))) _ _ ht2, ⟨by decide, by decide, by decide⟩, by decide⟩
        · exact ⟨t3, [3, 3, 3], rfl, (ext eHd (ext eHe eHf)) _ _ ht3, ⟨by decide, by decide, by decide⟩, by decide⟩
        · exact ⟨t4, [8, 4], rfl, (ext eHe eHf) _ _ ht4, ⟨by decide, by decide, by decide⟩, by decide⟩
        · exact ⟨t5, [3, 3, 3, 3], rfl, eHf _ _ ht5, ⟨by decide, by decide, by decide⟩, by decide⟩
      have htl : Hf tl = some (.lst [V.ref t, V.ref t1, V.ref t2, V.ref t3, V.ref t4, V.ref t5]) := htl
      refine ⟨s, tl, _, rfl, src4, htl, ntl, by simp, by simp, fun v H5 hv xb5 src5 => ?_⟩
      obtain ⟨q, ns2, rfl, hq, ok2, pr2⟩ := all v hv
      have hq5 := tup_xb src4 hq xb5
      have bn : ∀ n ∈ ns2, n.natAbs < 2 ^ 5000 := fun n hn => by
        have h1 := mul_le_of_mem ok2.one hn
        have h2 := ok2.one n hn
        exact Nat.lt_of_lt_of_le (show n.natAbs < 2 ^ 9 by show _ < 512; omega) (Nat.pow_le_pow_right (by decide) (by decide))
      dsimp only [gName]
      refine ⟨_, rfl, _, rfl, _, rfl, s, q, ns2, rfl, src5, hq5, ok2, bn, fun st p H6 nst hst ss xb6 src6 => ?_⟩
      refine ⟨q, st, ns2, p, rfl, tup_xb src5 hq5 xb6, ok2, pr2, hst, ss, fun H7 e7 => ⟨_, rfl, itf rfl ⟨⟨_, _, _, _, _, _, rfl⟩, ?_⟩⟩⟩
      exact e7 _ _ (xb6 _ _ nds (xb5 _ _ nds (E3 _ _ (xb3 _ _ nds hd2))))
    rintro σ H1 ⟨⟨y1, y2, y3, y4, y5, y6, rfl⟩, hd1⟩
    dsimp only
    refine ⟨slen rfl, ?_⟩
    (intro tt ntt; generalize hGtt : upd _ tt _ = H2; have eH2 := exG hGtt ntt; have htt := atG hGtt; clear hGtt)
    refine ⟨tt, rfl, ⟨_, SqT.of htt⟩, fun D hD => ?_⟩
    refine lc_newG (PdSet D) pdset_mono (walk_tup (xs := [V.int 1, V.int 2])) [oneL 1, oneL 2] (fun _ => true) rfl (by decide) hD (fun Hx ex => SqT.of (ex _ _ htt)) ?_ ?_
    · rintro i x g Ha Hz R S hg ea ⟨zB, hzB⟩ ⟨e0, hx⟩ kk _
      subst e0
      obtain ⟨f, rfl, rfl, hf⟩ : ∃ f : Int, x = .int f ∧ g = oneL f ∧ (f = 1 ∨ f = 2) := by
        match i, hg, hx with
        | 0, hg, hx => exact ⟨1, (Option.some.inj hx).symm, (Option.some.inj hg).symm, .inl rfl⟩
        | 1, hg, hx => exact ⟨2, (Option.some.inj hx).symm, (Option.some.inj hg).symm, .inr rfl⟩
        | i + 2, hg, hx => cases hg
      refine ⟨rfl, ?_⟩
      refine yes_if ?_
      refine ⟨_, rfl, f, 300, 3, 100, rfl, by rcases hf with rfl | rfl <;> exact ⟨by decide, by decide, by decide, by decide⟩, fun E hE => ?_⟩
      refine lc_new PdRow pdrow_mono walk_rangeC (oneL f) (show (oneL f).length = 100 by unfold oneL; rw [List.length_map, List.length_range]) (show 100 ≤ 10000000 by decide) hE (fun _ _ => True.intro) ?_ gmono_name ?_
      · rintro j x q Hb Hy R2 hq eb ⟨e0, e1⟩ kk2
        subst e0 e1
        unfold oneL at hq
        rw [List.getElem?_map] at hq
        obtain ⟨j', hj, rfl⟩ := Option.map_eq_some_iff.mp hq
        obtain ⟨_, ej⟩ := List.getElem?_eq_some_iff.mp hj
        rw [List.getElem_range] at ej
        subst ej
        refine ⟨rfl, _, rfl, slen rfl, ?_⟩
        (intro u nu; generalize hGu : upd _ u _ = Hc; have eHc := exG hGu nu; have hu := atG hGu; clear hGu)
        exact kk2 _ _ eHc ⟨u, rfl, hu⟩
      intro Hb us eb hEb pus
      exact kk _ _ eb rfl ⟨E, rfl, ⟨us, hEb, pus⟩, (ne_of_none hzB hE).symm⟩
    intro H3 ys e3 hD3 pys
    dsimp only [gName]
    refine ⟨slen rfl, ?_⟩
    (intro l3 nl3; generalize hGl3 : upd _ l3 _ = H4; have eH4 := exG hGl3 nl3; have hl3 := atG hGl3; clear hGl3)
    have ok3 : SzOk [300] := ⟨by decide, by decide, by decide⟩
    refine mk_tab (b := false) (ns := [300]) (show SqH H4 (false, l3) _ from hl3) ok3 fun bd H5 e5 nbd tab5 => ?_
    refine ⟨slen rfl, ?_⟩
    (intro z0 nz0; generalize hGz0 : upd _ z0 _ = H6; have eH6 := exG hGz0 nz0; have hz0 := atG hGz0; clear hGz0)
    refine ⟨bd, z0, [300], [0], rfl, tab5.mono eH6, ok3, by decide, hz0, ⟨⟨by decide, by decide⟩, True.intro⟩, fun f zs H7 e7 nf hf rz => ?_⟩
    rw [av_300] at rz
    have E7 := ext eH4 (ext e5 (ext eH6 e7))
    have E37 := ext eH4 (ext e5 (ext eH6 e7))
    have pys2 : Paired (PdSet D H3) ys [oneL 1, oneL 2] := pys
    exact ⟨_, rfl, eq_sets hf rz (E37 _ _ hD3) (B2 := fun _ => True) (paired_mono (fun v g ⟨a, e, r, _⟩ => ⟨a, e, True.intro, r.mono E37⟩) pys2) (k _)⟩
end

/-! ### the head by facts -/
def dd0 : He.DefD := ⟨("_wall", none), "_wall", "_wall", defArgs s_wall, defBody s_wall, defScope s_wall, [], []⟩
def dd1 : He.DefD := ⟨("is_integer", none), "is_integer", "is_integer", defArgs s_is_integer, defBody s_is_integer, defScope s_is_integer, [], []⟩
def dd2 : He.DefD := ⟨("is_at_least", none), "is_at_least", "is_at_least", defArgs s_is_at_least, defBody s_is_at_least, defScope s_is_at_least, [], []⟩
def dd3 : He.DefD := ⟨("is_between", none), "is_between", "is_between", defArgs s_is_between, defBody s_is_between, defScope s_is_between, [], []⟩
def dd4 : He.DefD := ⟨("greatest_common_divisor", none), "greatest_common_divisor", "greatest_common_divisor", defArgs s_greatest_common_divisor, defBody s_greatest_common_divisor, defScope s_greatest_common_divisor, [], []⟩
def dd5 : He.DefD := ⟨("Table", some "__init__"), "__init__", "Table.__init__", defArgs s_Table_init, defBody s_Table_init, defScope s_Table_init, [], []⟩
def dd6 : He.DefD := ⟨("Table", some "sizes"), "sizes", "Table.sizes", defArgs s_Table_sizes, defBody s_Table_sizes, defScope s_Table_sizes, [], []⟩
def dd7 : He.DefD := ⟨("Table", some "count"), "count", "Table.count", defArgs s_Table_count, defBody s_Table_count, defScope s_Table_count, [], []⟩
def dd8 : He.DefD := ⟨("Table", some "is_seat"), "is_seat", "Table.is_seat", defArgs s_Table_is_seat, defBody s_Table_is_seat, defScope s_Table_is_seat, [], []⟩
def dd9 : He.DefD := ⟨("Table", some "is_call"), "is_call", "Table.is_call", defArgs s_Table_is_call, defBody s_Table_is_call, defScope s_Table_is_call, [], []⟩
def dd10 : He.DefD := ⟨("Table", some "shifted"), "shifted", "Table.shifted", defArgs s_Table_shifted, defBody s_Table_shifted, defScope s_Table_shifted, [], []⟩
def dd11 : He.DefD := ⟨("Table", some "moves"), "moves", "Table.moves", defArgs s_Table_moves, defBody s_Table_moves, defScope s_Table_moves, [], []⟩
def dd12 : He.DefD := ⟨("Table", some "step"), "step", "Table.step", defArgs s_Table_step, defBody s_Table_step, defScope s_Table_step, [], []⟩
def dd13 : He.DefD := ⟨("Table", some "order"), "order", "Table.order", defArgs s_Table_order, defBody s_Table_order, defScope s_Table_order, [], []⟩
def dd14 : He.DefD := ⟨("Table", some "halves"), "halves", "Table.halves", defArgs s_Table_halves, defBody s_Table_halves, defScope s_Table_halves, [], []⟩
def dd15 : He.DefD := ⟨("require_table", none), "require_table", "require_table", defArgs s_require_table, defBody s_require_table, defScope s_require_table, [], []⟩
def dd16 : He.DefD := ⟨("require_seat", none), "require_seat", "require_seat", defArgs s_require_seat, defBody s_require_seat, defScope s_require_seat, [], []⟩
def dd17 : He.DefD := ⟨("require_small", none), "require_small", "require_small", defArgs s_require_small, defBody s_require_small, defScope s_require_small, [], []⟩
def dd18 : He.DefD := ⟨("all_seats", none), "all_seats", "all_seats", defArgs s_all_seats, defBody s_all_seats, defScope s_all_seats, [], []⟩
def dd19 : He.DefD := ⟨("weighted", none), "weighted", "weighted", defArgs s_weighted, defBody s_weighted, defScope s_weighted, [], []⟩
def dd20 : He.DefD := ⟨("least_odd_prime", none), "least_odd_prime", "least_odd_prime", defArgs s_least_odd_prime, defBody s_least_odd_prime, defScope s_least_odd_prime, [], []⟩
def dd21 : He.DefD := ⟨("leading_ones", none), "leading_ones", "leading_ones", defArgs s_leading_ones, defBody s_leading_ones, defScope s_leading_ones, [], []⟩
def dd22 : He.DefD := ⟨("avoided_sets", none), "avoided_sets", "avoided_sets", defArgs s_avoided_sets, defBody s_avoided_sets, defScope s_avoided_sets, [], []⟩
def dd23 : He.DefD := ⟨("_law_mixed", none), "_law_mixed", "_law_mixed", defArgs s_law_mixed, defBody s_law_mixed, defScope s_law_mixed, [], []⟩
def dd24 : He.DefD := ⟨("_law_source", none), "_law_source", "_law_source", defArgs s_law_source, defBody s_law_source, defScope s_law_source, [], []⟩
def dd25 : He.DefD := ⟨("_law_take", none), "_law_take", "_law_take", defArgs s_law_take, defBody s_law_take, defScope s_law_take, [], []⟩
def dd26 : He.DefD := ⟨("_law_one", none), "_law_one", "_law_one", defArgs s_law_one, defBody s_law_one, defScope s_law_one, [], []⟩
def dd27 : He.DefD := ⟨("_law_rings", none), "_law_rings", "_law_rings", defArgs s_law_rings, defBody s_law_rings, defScope s_law_rings, [], []⟩
def dd28 : He.DefD := ⟨("_law_seat", none), "_law_seat", "_law_seat", defArgs s_law_seat, defBody s_law_seat, defScope s_law_seat, [], []⟩
def dd29 : He.DefD := ⟨("_law_all", none), "_law_all", "_law_all", defArgs s_law_all, defBody s_law_all, defScope s_law_all, [], []⟩
def dd30 : He.DefD := ⟨("_law_value", none), "_law_value", "_law_value", defArgs s_law_value, defBody s_law_value, defScope s_law_value, [], []⟩
def dd31 : He.DefD := ⟨("_law_least_prime", none), "_law_least_prime", "_law_least_prime", defArgs s_law_least_prime, defBody s_law_least_prime, defScope s_law_least_prime, [], []⟩
def dd32 : He.DefD := ⟨("_law_due", none), "_law_due", "_law_due", defArgs s_law_due, defBody s_law_due, defScope s_law_due, [], []⟩
def dd33 : He.DefD := ⟨("_law_right", none), "_law_right", "_law_right", defArgs s_law_right, defBody s_law_right, defScope s_law_right, [], []⟩
def dd34 : He.DefD := ⟨("law", none), "law", "law", defArgs s_law, defBody s_law, defScope s_law, [], []⟩
def fnL0 : List He.DefD := [dd0, dd1, dd2, dd3, dd4, dd5, dd6, dd7, dd8, dd9, dd10, dd11, dd12, dd13, dd14, dd15, dd16, dd17, dd18, dd19, dd20, dd21, dd22, dd23, dd24, dd25, dd26, dd27, dd28, dd29]
def fnL1 : List He.DefD := [dd30, dd31, dd32, dd33, dd34]
def fnL : List He.DefD := fnL0 ++ fnL1
def faL0 : List He.Fa := [.glo "_wall", .glo "is_integer", .glo "is_at_least", .glo "is_between", .glo "greatest_common_divisor", .glo "require_table", .glo "require_seat", .glo "require_small", .glo "all_seats", .glo "weighted", .glo "least_odd_prime", .glo "leading_ones", .glo "avoided_sets", .glo "_law_mixed", .glo "_law_source", .glo "_law_take", .glo "_law_one", .glo "_law_rings", .glo "_law_seat", .glo "_law_all", .glo "_law_value", .glo "_law_least_prime", .glo "_law_due", .glo "_law_right", .glo "law", .glo "Table", .cls "Table", .mkr "Table", .meth "Table" "sizes", .meth "Table" "count"]
def faL1 : List He.Fa := [.meth "Table" "is_seat", .meth "Table" "is_call", .meth "Table" "shifted", .meth "Table" "moves", .meth "Table" "step", .meth "Table" "order", .meth "Table" "halves", .noat "Table" "rings", .int "MAX_RINGS" 4, .int "SMALL" 300, .free "abs", .free "all", .free "bool", .free "int", .free "isinstance", .free "len", .free "list", .free "max", .free "range", .free "sorted", .free "sum", .free "tuple", .free "zip"]
def faL : List He.Fa := faL0 ++ faL1
def exB (K : PySem.W.Frag) : Bool := (He.eqO (PySem.W.findIn K (.ref (He.ga K "Table")) "__class__") (some (some (.builtin "object.__class__")))) && ((decide (PySem.W.mroIn K (He.ga K "Table") (.type "object") = some true)) && ((He.eqO (PySem.W.specialIn K (.builtin "object.__class__") "__get__") (some (some (.builtin "getset_descriptor.__get__")))) && ((decide (PySem.W.takesIn K (.builtin "object.__class__") = some true)) && (true))))
abbrev AlK : Type := He.AlD × Bool
def obsK2 (K : PySem.W.Frag) : AlK := (He.obsD faL fnL K, exB K)
def SaysK (K : PySem.W.Frag) : Prop := obsK2 K = (He.valD fnL, true)
def obsK (g : Addr → Option Obj) : AlK := obsK2 (He.frG g (He.asD g 4))
def hk : PySem.W.Hook where
  α := AlK
  obs := fun s => obsK s.heap.get?
  val := fun _ => (He.valD fnL, true)
  says := fun _ h => ∃ K : PySem.W.Frag, K.In h ∧ SaysK K
  of := fun _ _ e => ⟨_, He.frG_in, e⟩
  keeps := fun _ _ _ ⟨K, hK, c⟩ k => ⟨K, PySem.W.Frag.In.keeps hK k, c⟩
def ob (s : PySem.W.SharedT) : AlK := obsK (HandSHeadRun.getT s)
theorem ob_eq (s : PySem.W.SharedT) : ob s = hk.obs s.abs := by
  have e : HandSHeadRun.getT s = s.abs.heap.get? := funext (HandSHeadRun.getT_eq s)
  show obsK (HandSHeadRun.getT s) = obsK s.abs.heap.get?
  rw [e]
def loose0 : List PySem.Str := ["_wall", "SeatError", "InvalidTable", "InvalidSeat", "TooLarge", "is_integer", "is_at_least", "is_between", "greatest_common_divisor", "MAX_RINGS", "SMALL", "Table", "require_table", "require_seat", "require_small", "all_seats", "weighted", "least_odd_prime", "leading_ones", "avoided_sets", "_law_mixed", "_law_source", "_law_take", "_law_one", "_law_rings", "_law_seat", "_law_all", "_law_value", "_law_least_prime", "_law_due"]
def loose1 : List PySem.Str := ["_law_right"]
def loose : List PySem.Str := loose0 ++ loose1
abbrev RR : PySem.W.OpenRow := PySem.W.OpenLaw.row PySem.Challenge.rw_calledseats_k76_largest_avoided_sets
abbrev QQ : Program := PySem.W.view RR.prog [37]
def kOf (s : PySem.W.SharedT) : PySem.W.Frag := He.frG (HandSHeadRun.getT s) (He.asD (HandSHeadRun.getT s) 4)
theorem runA (w : World) : HandSHeadRun.RunEq RR QQ PySem.W.Hook.none (fun _ => ()) 30000 loose w := by
  intro os
  kernel_rfl
def obB (s : PySem.W.SharedT) : Bool × List He.FnW := (fnL.all fun d => d.ok (kOf s), fnL.map fun d => He.fnW (kOf s) d.at_)
def obC (s : PySem.W.SharedT) : Bool × Bool := (faL.all fun f => f.ok (kOf s), exB (kOf s))
theorem runB (w : World) (os : OsState) : (HandSHeadRun.endF (HandSHeadRun.stepQ (HandSHeadRun.denQ HandSHeadRun.tabQ) RR.prog w) 30000 RR.prog w os).map obB = some (true, fnL.map He.DefD.val) := by
  kernel_rfl
theorem runC (w : World) (os : OsState) : (HandSHeadRun.endF (HandSHeadRun.stepQ (HandSHeadRun.denQ HandSHeadRun.tabQ) RR.prog w) 30000 RR.prog w os).map obC = some (true, true) := by
  kernel_rfl
theorem runTop (w : World) : HandSHeadRun.RunEq RR QQ hk ob 30000 loose w := by
  intro os
  have hA := runA w os
  have hB := runB w os
  have hC := runC w os
  cases e : HandSHeadRun.endF (HandSHeadRun.stepQ (HandSHeadRun.denQ HandSHeadRun.tabQ) RR.prog w) 30000 RR.prog w os with
  | none =>
    rw [e] at hB
    cases hB
  | some s =>
    rw [e] at hA hB hC
    have hA2 := Option.some.inj hA
    have hB2 : obB s = (true, fnL.map He.DefD.val) := Option.some.inj hB
    have hC2 : obC s = (true, true) := Option.some.inj hC
    have hA3 := Prod.mk.inj hA2
    have hA4 := Prod.mk.inj hA3.2
    obtain ⟨b1, b2⟩ := Prod.mk.inj hB2
    obtain ⟨c1, c2⟩ := Prod.mk.inj hC2
    have ho : ob s = (He.valD fnL, true) := by
      show (((faL.all fun f => f.ok (kOf s)) && (fnL.all fun d => d.ok (kOf s)), fnL.map fun d => He.fnW (kOf s) d.at_), exB (kOf s)) = ((true, fnL.map He.DefD.val), true)
      rw [c1, b1, b2, c2]
      rfl
    exact congrArg some (Prod.ext hA3.1 (Prod.ext hA4.1 ho))
theorem fun_of {K : PySem.W.Frag} {d : He.DefD} {st : Stmt} {x q : Str} {fd : FuncData} (e1 : d.name = x) (e2 : d.qual = q) (e3 : d.params = defArgs st) (e4 : d.body = defBody st) (e5 : d.scope = defScope st) (e6 : d.dfl = []) (F : L2.FunD K d.name d.qual d.params d.body d.scope (d.dvs K) (d.kws K) (He.fAd K d.at_) fd) : Fun K x q st (He.fAd K d.at_) fd := by
  obtain ⟨oc, od, dV, kV, doc, pm, an, cdv, ct, osl, h1, h2, h3, h4, h5⟩ := F.ex
  have h6 : dV = .none := by
    rcases h4 with ⟨_, h⟩ | ⟨h, _⟩
    · exact h
    · exact absurd (by show d.dfl.map _ = []; rw [e6]; rfl) h
  subst e1 e2
  rw [e3, e4, e5, h6] at h1
  exact ⟨⟨oc, od, kV, doc, pm, an, cdv, ct, osl, h1, h2, h3⟩, F.kp⟩
set_option maxHeartbeats 0 in
theorem tx_of {K : PySem.W.Frag} {h : Heap} {mg : Str → Option Value} (X : K.In h) (G : h.Ns mainGlobals mg) (c2 : SaysK K) :
    ∃ T : TX K mg, mg "law" = some (.ref T.f_law) ∧ ∀ (s : Shared) (v : Value), BindsTo s T.fd_law ⟨[v], []⟩ [("_law_script", v)] := by
  have c : He.SaysD faL fnL K := congrArg (fun z : AlK => z.1) c2
  have cx : exB K = true := congrArg (fun z : AlK => z.2) c2
  obtain ⟨ic_Table, cx⟩ := He.ba cx
  obtain ⟨im_Table, cx⟩ := He.ba cx
  obtain ⟨ig_, cx⟩ := He.ba cx
  obtain ⟨it_, cx⟩ := He.ba cx
  obtain ⟨fd0, D0⟩ := c.def_ 0 (d := dd0) rfl
  have F0 : Fun K "_wall" "_wall" s_wall (He.fAd K dd0.at_) fd0 := fun_of rfl rfl rfl rfl rfl rfl D0
  have b0 := F0.binds (ps := ["k"]) fun _ _ _ _ _ _ us hl => match us, hl with | [_], _ => rfl
  obtain ⟨fd1, D1⟩ := c.def_ 1 (d := dd1) rfl
  have F1 : Fun K "is_integer" "is_integer" s_is_integer (He.fAd K dd1.at_) fd1 := fun_of rfl rfl rfl rfl rfl rfl D1
  have b1 := F1.binds (ps := ["value"]) fun _ _ _ _ _ _ us hl => match us, hl with | [_], _ => rfl
  obtain ⟨fd2, D2⟩ := c.def_ 2 (d := dd2) rfl
  have F2 : Fun K "is_at_least" "is_at_least" s_is_at_least (He.fAd K dd2.at_) fd2 := fun_of rfl rfl rfl rfl rfl rfl D2
  have b2 := F2.binds (ps := ["value", "low"]) fun _ _ _ _ _ _ us hl => match us, hl with | [_, _], _ => rfl
  obtain ⟨fd3, D3⟩ := c.def_ 3 (d := dd3) rfl
  have F3 : Fun K "is_between" "is_between" s_is_between (He.fAd K dd3.at_) fd3 := fun_of rfl rfl rfl rfl rfl rfl D3
  have b3 := F3.binds (ps := ["value", "low", "high"]) fun _ _ _ _ _ _ us hl => match us, hl with | [_, _, _], _ => rfl
  obtain ⟨fd4, D4⟩ := c.def_ 4 (d := dd4) rfl
  have F4 : Fun K "greatest_common_divisor" "greatest_common_divisor" s_greatest_common_divisor (He.fAd K dd4.at_) fd4 := fun_of rfl rfl rfl rfl rfl rfl D4
  have b4 := F4.binds (ps := ["first", "second"]) fun _ _ _ _ _ _ us hl => match us, hl with | [_, _], _ => rfl
  obtain ⟨fd5, D5⟩ := c.def_ 5 (d := dd5) rfl
  have F5 : Fun K "__init__" "Table.__init__" s_Table_init (He.fAd K dd5.at_) fd5 := fun_of rfl rfl rfl rfl rfl rfl D5
  have b5 := F5.binds (ps := ["self", "rings"]) fun _ _ _ _ _ _ us hl => match us, hl with | [_, _], _ => rfl
  obtain ⟨fd6, D6⟩ := c.def_ 6 (d := dd6) rfl
  have F6 : Fun K "sizes" "Table.sizes" s_Table_sizes (He.fAd K dd6.at_) fd6 := fun_of rfl rfl rfl rfl rfl rfl D6
  have b6 := F6.binds (ps := ["self"]) fun _ _ _ _ _ _ us hl => match us, hl with | [_], _ => rfl
  obtain ⟨fd7, D7⟩ := c.def_ 7 (d := dd7) rfl
  have F7 : Fun K "count" "Table.count" s_Table_count (He.fAd K dd7.at_) fd7 := fun_of rfl rfl rfl rfl rfl rfl D7
  have b7 := F7.binds (ps := ["self"]) fun _ _ _ _ _ _ us hl => match us, hl with | [_], _ => rfl
  obtain ⟨fd8, D8⟩ := c.def_ 8 (d := dd8) rfl
  have F8 : Fun K "is_seat" "Table.is_seat" s_Table_is_seat (He.fAd K dd8.at_) fd8 := fun_of rfl rfl rfl rfl rfl rfl D8
  have b8 := F8.binds (ps := ["self", "value"]) fun _ _ _ _ _ _ us hl => match us, hl with | [_, _], _ => rfl
  obtain ⟨fd9, D9⟩ := c.def_ 9 (d := dd9) rfl
  have F9 : Fun K "is_call" "Table.is_call" s_Table_is_call (He.fAd K dd9.at_) fd9 := fun_of rfl rfl rfl rfl rfl rfl D9
  have b9 := F9.binds (ps := ["self", "value"]) fun _ _ _ _ _ _ us hl => match us, hl with | [_, _], _ => rfl
  obtain ⟨fd10, D10⟩ := c.def_ 10 (d := dd10) rfl
  have F10 : Fun K "shifted" "Table.shifted" s_Table_shifted (He.fAd K dd10.at_) fd10 := fun_of rfl rfl rfl rfl rfl rfl D10
  have b10 := F10.binds (ps := ["self", "seat", "call", "factor"]) fun _ _ _ _ _ _ us hl => match us, hl with | [_, _, _, _], _ => rfl
  obtain ⟨fd11, D11⟩ := c.def_ 11 (d := dd11) rfl
  have F11 : Fun K "moves" "Table.moves" s_Table_moves (He.fAd K dd11.at_) fd11 := fun_of rfl rfl rfl rfl rfl rfl D11
  have b11 := F11.binds (ps := ["self", "seat", "call"]) fun _ _ _ _ _ _ us hl => match us, hl with | [_, _, _], _ => rfl
  obtain ⟨fd12, D12⟩ := c.def_ 12 (d := dd12) rfl
  have F12 : Fun K "step" "Table.step" s_Table_step (He.fAd K dd12.at_) fd12 := fun_of rfl rfl rfl rfl rfl rfl D12
  have b12 := F12.binds (ps := ["self", "seat", "call", "direction"]) fun _ _ _ _ _ _ us hl => match us, hl with | [_, _, _, _], _ => rfl
  obtain ⟨fd13, D13⟩ := c.def_ 13 (d := dd13) rfl
  have F13 : Fun K "order" "Table.order" s_Table_order (He.fAd K dd13.at_) fd13 := fun_of rfl rfl rfl rfl rfl rfl D13
  have b13 := F13.binds (ps := ["self", "seat"]) fun _ _ _ _ _ _ us hl => match us, hl with | [_, _], _ => rfl
  obtain ⟨fd14, D14⟩ := c.def_ 14 (d := dd14) rfl
  have F14 : Fun K "halves" "Table.halves" s_Table_halves (He.fAd K dd14.at_) fd14 := fun_of rfl rfl rfl rfl rfl rfl D14
  have b14 := F14.binds (ps := ["self", "seat"]) fun _ _ _ _ _ _ us hl => match us, hl with | [_, _], _ => rfl
  obtain ⟨fd15, D15⟩ := c.def_ 15 (d := dd15) rfl
  have F15 : Fun K "require_table" "require_table" s_require_table (He.fAd K dd15.at_) fd15 := fun_of rfl rfl rfl rfl rfl rfl D15
  have b15 := F15.binds (ps := ["table"]) fun _ _ _ _ _ _ us hl => match us, hl with | [_], _ => rfl
  obtain ⟨fd16, D16⟩ := c.def_ 16 (d := dd16) rfl
  have F16 : Fun K "require_seat" "require_seat" s_require_seat (He.fAd K dd16.at_) fd16 := fun_of rfl rfl rfl rfl rfl rfl D16
  have b16 := F16.binds (ps := ["table", "seat"]) fun _ _ _ _ _ _ us hl => match us, hl with | [_, _], _ => rfl
  obtain ⟨fd17, D17⟩ := c.def_ 17 (d := dd17) rfl
  have F17 : Fun K "require_small" "require_small" s_require_small (He.fAd K dd17.at_) fd17 := fun_of rfl rfl rfl rfl rfl rfl D17
  have b17 := F17.binds (ps := ["table"]) fun _ _ _ _ _ _ us hl => match us, hl with | [_], _ => rfl
  obtain ⟨fd18, D18⟩ := c.def_ 18 (d := dd18) rfl
  have F18 : Fun K "all_seats" "all_seats" s_all_seats (He.fAd K dd18.at_) fd18 := fun_of rfl rfl rfl rfl rfl rfl D18
  have b18 := F18.binds (ps := ["table"]) fun _ _ _ _ _ _ us hl => match us, hl with | [_], _ => rfl
  obtain ⟨fd19, D19⟩ := c.def_ 19 (d := dd19) rfl
  have F19 : Fun K "weighted" "weighted" s_weighted (He.fAd K dd19.at_) fd19 := fun_of rfl rfl rfl rfl rfl rfl D19
  have b19 := F19.binds (ps := ["modulus", "weights", "seat"]) fun _ _ _ _ _ _ us hl => match us, hl with | [_, _, _], _ => rfl
  obtain ⟨fd20, D20⟩ := c.def_ 20 (d := dd20) rfl
  have F20 : Fun K "least_odd_prime" "least_odd_prime" s_least_odd_prime (He.fAd K dd20.at_) fd20 := fun_of rfl rfl rfl rfl rfl rfl D20
  have b20 := F20.binds (ps := ["number"]) fun _ _ _ _ _ _ us hl => match us, hl with | [_], _ => rfl
  obtain ⟨fd21, D21⟩ := c.def_ 21 (d := dd21) rfl
  have F21 : Fun K "leading_ones" "leading_ones" s_leading_ones (He.fAd K dd21.at_) fd21 := fun_of rfl rfl rfl rfl rfl rfl D21
  have b21 := F21.binds (ps := ["sizes", "prime"]) fun _ _ _ _ _ _ us hl => match us, hl with | [_, _], _ => rfl
  obtain ⟨fd22, D22⟩ := c.def_ 22 (d := dd22) rfl
  have F22 : Fun K "avoided_sets" "avoided_sets" s_avoided_sets (He.fAd K dd22.at_) fd22 := fun_of rfl rfl rfl rfl rfl rfl D22
  have b22 := F22.binds (ps := ["table", "seat"]) fun _ _ _ _ _ _ us hl => match us, hl with | [_, _], _ => rfl
  obtain ⟨fd23, D23⟩ := c.def_ 23 (d := dd23) rfl
  have F23 : Fun K "_law_mixed" "_law_mixed" s_law_mixed (He.fAd K dd23.at_) fd23 := fun_of rfl rfl rfl rfl rfl rfl D23
  have b23 := F23.binds (ps := ["_law_cell", "_law_k"]) fun _ _ _ _ _ _ us hl => match us, hl with | [_, _], _ => rfl
  obtain ⟨fd24, D24⟩ := c.def_ 24 (d := dd24) rfl
  have F24 : Fun K "_law_source" "_law_source" s_law_source (He.fAd K dd24.at_) fd24 := fun_of rfl rfl rfl rfl rfl rfl D24
  have b24 := F24.binds (ps := ["_law_cell"]) fun _ _ _ _ _ _ us hl => match us, hl with | [_], _ => rfl
  obtain ⟨fd25, D25⟩ := c.def_ 25 (d := dd25) rfl
  have F25 : Fun K "_law_take" "_law_take" s_law_take (He.fAd K dd25.at_) fd25 := fun_of rfl rfl rfl rfl rfl rfl D25
  have b25 := F25.binds (ps := ["_law_source_here", "_law_many"]) fun _ _ _ _ _ _ us hl => match us, hl with | [_, _], _ => rfl
  obtain ⟨fd26, D26⟩ := c.def_ 26 (d := dd26) rfl
  have F26 : Fun K "_law_one" "_law_one" s_law_one (He.fAd K dd26.at_) fd26 := fun_of rfl rfl rfl rfl rfl rfl D26
  have b26 := F26.binds (ps := ["_law_source_here", "_law_some"]) fun _ _ _ _ _ _ us hl => match us, hl with | [_, _], _ => rfl
  obtain ⟨fd27, D27⟩ := c.def_ 27 (d := dd27) rfl
  have F27 : Fun K "_law_rings" "_law_rings" s_law_rings (He.fAd K dd27.at_) fd27 := fun_of rfl rfl rfl rfl rfl rfl D27
  have b27 := F27.binds (ps := ["_law_source_here", "_law_limit"]) fun _ _ _ _ _ _ us hl => match us, hl with | [_, _], _ => rfl
  obtain ⟨fd28, D28⟩ := c.def_ 28 (d := dd28) rfl
  have F28 : Fun K "_law_seat" "_law_seat" s_law_seat (He.fAd K dd28.at_) fd28 := fun_of rfl rfl rfl rfl rfl rfl D28
  have b28 := F28.binds (ps := ["_law_source_here", "_law_rings_here"]) fun _ _ _ _ _ _ us hl => match us, hl with | [_, _], _ => rfl
  obtain ⟨fd29, D29⟩ := c.def_ 29 (d := dd29) rfl
  have F29 : Fun K "_law_all" "_law_all" s_law_all (He.fAd K dd29.at_) fd29 := fun_of rfl rfl rfl rfl rfl rfl D29
  have b29 := F29.binds (ps := ["_law_rings_here"]) fun _ _ _ _ _ _ us hl => match us, hl with | [_], _ => rfl
  obtain ⟨fd30, D30⟩ := c.def_ 30 (d := dd30) rfl
  have F30 : Fun K "_law_value" "_law_value" s_law_value (He.fAd K dd30.at_) fd30 := fun_of rfl rfl rfl rfl rfl rfl D30
  have b30 := F30.binds (ps := ["_law_modulus", "_law_weights", "_law_spot"]) fun _ _ _ _ _ _ us hl => match us, hl with | [_, _, _], _ => rfl
  obtain ⟨fd31, D31⟩ := c.def_ 31 (d := dd31) rfl
  have F31 : Fun K "_law_least_prime" "_law_least_prime" s_law_least_prime (He.fAd K dd31.at_) fd31 := fun_of rfl rfl rfl rfl rfl rfl D31
  have b31 := F31.binds (ps := ["_law_rings_here"]) fun _ _ _ _ _ _ us hl => match us, hl with | [_], _ => rfl
  obtain ⟨fd32, D32⟩ := c.def_ 32 (d := dd32) rfl
  have F32 : Fun K "_law_due" "_law_due" s_law_due (He.fAd K dd32.at_) fd32 := fun_of rfl rfl rfl rfl rfl rfl D32
  have b32 := F32.binds (ps := ["_law_rings_here", "_law_start", "_law_prime"]) fun _ _ _ _ _ _ us hl => match us, hl with | [_, _, _], _ => rfl
  obtain ⟨fd33, D33⟩ := c.def_ 33 (d := dd33) rfl
  have F33 : Fun K "_law_right" "_law_right" s_law_right (He.fAd K dd33.at_) fd33 := fun_of rfl rfl rfl rfl rfl rfl D33
  have b33 := F33.binds (ps := ["_law_rings_here", "_law_start"]) fun _ _ _ _ _ _ us hl => match us, hl with | [_, _], _ => rfl
  obtain ⟨fd34, D34⟩ := c.def_ 34 (d := dd34) rfl
  have F34 : Fun K "law" "law" s_law (He.fAd K dd34.at_) fd34 := fun_of rfl rfl rfl rfl rfl rfl D34
  have b34 := F34.binds (ps := ["_law_script"]) fun _ _ _ _ _ _ us hl => match us, hl with | [_], _ => rfl
  obtain ⟨t_MAX_RINGS, e_MAX_RINGS⟩ := He.int_ok X G (c.fact 38 (f := .int "MAX_RINGS" 4) rfl)
  obtain ⟨t_SMALL, e_SMALL⟩ := He.int_ok X G (c.fact 39 (f := .int "SMALL" 300) rfl)
  refine ⟨{
    f_wall := He.fAd K dd0.at_, fd_wall := fd0, F_wall := F0, b_wall := b0, m_wall := He.glo_ok X G (c.fact 0 (f := .glo "_wall") rfl),
    f_is_integer := He.fAd K dd1.at_, fd_is_integer := fd1, F_is_integer := F1, b_is_integer := b1, m_is_integer := He.glo_ok X G (c.fact 1 (f := .glo "is_integer") rfl),
    f_is_at_least := He.fAd K dd2.at_, fd_is_at_least := fd2, F_is_at_least := F2, b_is_at_least := b2, m_is_at_least := He.glo_ok X G (c.fact 2 (f := .glo "is_at_least") rfl),
    f_is_between := He.fAd K dd3.at_, fd_is_between := fd3, F_is_between := F3, b_is_between := b3, m_is_between := He.glo_ok X G (c.fact 3 (f := .glo "is_between") rfl),
    f_greatest_common_divisor := He.fAd K dd4.at_, fd_greatest_common_divisor := fd4, F_greatest_common_divisor := F4, b_greatest_common_divisor := b4, m_greatest_common_divisor := He.glo_ok X G (c.fact 4 (f := .glo "greatest_common_divisor") rfl),
    f_Table_init := He.fAd K dd5.at_, fd_Table_init := fd5, F_Table_init := F5, b_Table_init := b5,
    f_Table_sizes := He.fAd K dd6.at_, fd_Table_sizes := fd6, F_Table_sizes := F6, b_Table_sizes := b6,
    f_Table_count := He.fAd K dd7.at_, fd_Table_count := fd7, F_Table_count := F7, b_Table_count := b7,
    f_Table_is_seat := He.fAd K dd8.at_, fd_Table_is_seat := fd8, F_Table_is_seat := F8, b_Table_is_seat := b8,
    f_Table_is_call := He.fAd K dd9.at_, fd_Table_is_call := fd9, F_Table_is_call := F9, b_Table_is_call := b9,
    f_Table_shifted := He.fAd K dd10.at_, fd_Table_shifted := fd10, F_Table_shifted := F10, b_Table_shifted := b10,
    f_Table_moves := He.fAd K dd11.at_, fd_Table_moves := fd11, F_Table_moves := F11, b_Table_moves := b11,
    f_Table_step := He.fAd K dd12.at_, fd_Table_step := fd12, F_Table_step := F12, b_Table_step := b12,
    f_Table_order := He.fAd K dd13.at_, fd_Table_order := fd13, F_Table_order := F13, b_Table_order := b13,
    f_Table_halves := He.fAd K dd14.at_, fd_Table_halves := fd14, F_Table_halves := F14, b_Table_halves := b14,
    f_require_table := He.fAd K dd15.at_, fd_require_table := fd15, F_require_table := F15, b_require_table := b15, m_require_table := He.glo_ok X G (c.fact 5 (f := .glo "require_table") rfl),
    f_require_seat := He.fAd K dd16.at_, fd_require_seat := fd16, F_require_seat := F16, b_require_seat := b16, m_require_seat := He.glo_ok X G (c.fact 6 (f := .glo "require_seat") rfl),
    f_require_small := He.fAd K dd17.at_, fd_require_small := fd17, F_require_small := F17, b_require_small := b17, m_require_small := He.glo_ok X G (c.fact 7 (f := .glo "require_small") rfl),
    f_all_seats := He.fAd K dd18.at_, fd_all_seats := fd18, F_all_seats := F18, b_all_seats := b18, m_all_seats := He.glo_ok X G (c.fact 8 (f := .glo "all_seats") rfl),
    f_weighted := He.fAd K dd19.at_, fd_weighted := fd19, F_weighted := F19, b_weighted := b19, m_weighted := He.glo_ok X G (c.fact 9 (f := .glo "weighted") rfl),
    f_least_odd_prime := He.fAd K dd20.at_, fd_least_odd_prime := fd20, F_least_odd_prime := F20, b_least_odd_prime := b20, m_least_odd_prime := He.glo_ok X G (c.fact 10 (f := .glo "least_odd_prime") rfl),
    f_leading_ones := He.fAd K dd21.at_, fd_leading_ones := fd21, F_leading_ones := F21, b_leading_ones := b21, m_leading_ones := He.glo_ok X G (c.fact 11 (f := .glo "leading_ones") rfl),
    f_avoided_sets := He.fAd K dd22.at_, fd_avoided_sets := fd22, F_avoided_sets := F22, b_avoided_sets := b22, m_avoided_sets := He.glo_ok X G (c.fact 12 (f := .glo "avoided_sets") rfl),
    f_law_mixed := He.fAd K dd23.at_, fd_law_mixed := fd23, F_law_mixed := F23, b_law_mixed := b23, m_law_mixed := He.glo_ok X G (c.fact 13 (f := .glo "_law_mixed") rfl),
    f_law_source := He.fAd K dd24.at_, fd_law_source := fd24, F_law_source := F24, b_law_source := b24, m_law_source := He.glo_ok X G (c.fact 14 (f := .glo "_law_source") rfl),
    f_law_take := He.fAd K dd25.at_, fd_law_take := fd25, F_law_take := F25, b_law_take := b25, m_law_take := He.glo_ok X G (c.fact 15 (f := .glo "_law_take") rfl),
    f_law_one := He.fAd K dd26.at_, fd_law_one := fd26, F_law_one := F26, b_law_one := b26, m_law_one := He.glo_ok X G (c.fact 16 (f := .glo "_law_one") rfl),
    f_law_rings := He.fAd K dd27.at_, fd_law_rings := fd27, F_law_rings := F27, b_law_rings := b27, m_law_rings := He.glo_ok X G (c.fact 17 (f := .glo "_law_rings") rfl),
    f_law_seat := He.fAd K dd28.at_, fd_law_seat := fd28, F_law_seat := F28, b_law_seat := b28, m_law_seat := He.glo_ok X G (c.fact 18 (f := .glo "_law_seat") rfl),
    f_law_all := He.fAd K dd29.at_, fd_law_all := fd29, F_law_all := F29, b_law_all := b29, m_law_all := He.glo_ok X G (c.fact 19 (f := .glo "_law_all") rfl),
    f_law_value := He.fAd K dd30.at_, fd_law_value := fd30, F_law_value := F30, b_law_value := b30, m_law_value := He.glo_ok X G (c.fact 20 (f := .glo "_law_value") rfl),
    f_law_least_prime := He.fAd K dd31.at_, fd_law_least_prime := fd31, F_law_least_prime := F31, b_law_least_prime := b31, m_law_least_prime := He.glo_ok X G (c.fact 21 (f := .glo "_law_least_prime") rfl),
    f_law_due := He.fAd K dd32.at_, fd_law_due := fd32, F_law_due := F32, b_law_due := b32, m_law_due := He.glo_ok X G (c.fact 22 (f := .glo "_law_due") rfl),
    f_law_right := He.fAd K dd33.at_, fd_law_right := fd33, F_law_right := F33, b_law_right := b33, m_law_right := He.glo_ok X G (c.fact 23 (f := .glo "_law_right") rfl),
    f_law := He.fAd K dd34.at_, fd_law := fd34, F_law := F34, b_law := b34, m_law := He.glo_ok X G (c.fact 24 (f := .glo "law") rfl),
    C_Table := He.ga K "Table", cl_Table := He.cls_ok (c.fact 26 (f := .cls "Table") rfl), m_Table := He.glo_ok X G (c.fact 25 (f := .glo "Table") rfl),
    M_Table := He.mkr_ok (c.fact 27 (f := .mkr "Table") rfl),
    me_Table_sizes := He.meth_ok (c.fact 28 (f := .meth "Table" "sizes") rfl),
    me_Table_count := He.meth_ok (c.fact 29 (f := .meth "Table" "count") rfl),
    me_Table_is_seat := He.meth_ok (c.fact 30 (f := .meth "Table" "is_seat") rfl),
    me_Table_is_call := He.meth_ok (c.fact 31 (f := .meth "Table" "is_call") rfl),
    me_Table_shifted := He.meth_ok (c.fact 32 (f := .meth "Table" "shifted") rfl),
    me_Table_moves := He.meth_ok (c.fact 33 (f := .meth "Table" "moves") rfl),
    me_Table_step := He.meth_ok (c.fact 34 (f := .meth "Table" "step") rfl),
    me_Table_order := He.meth_ok (c.fact 35 (f := .meth "Table" "order") rfl),
    me_Table_halves := He.meth_ok (c.fact 36 (f := .meth "Table" "halves") rfl),
    n_Table_rings := He.noat_ok (c.fact 37 (f := .noat "Table" "rings") rfl),
    ic_Table := He.eqO_ok ic_Table,
    im_Table := of_decide_eq_true im_Table,
    ig_ := He.eqO_ok ig_,
    it_ := of_decide_eq_true it_,
    t_MAX_RINGS := t_MAX_RINGS, c_MAX_RINGS := e_MAX_RINGS,
    t_SMALL := t_SMALL, c_SMALL := e_SMALL,
    z_abs := He.free_ok X G (c.fact 40 (f := .free "abs") rfl),
    z_all := He.free_ok X G (c.fact 41 (f := .free "all") rfl),
    z_bool := He.free_ok X G (c.fact 42 (f := .free "bool") rfl),
    z_int := He.free_ok X G (c.fact 43 (f := .free "int") rfl),
    z_isinstance := He.free_ok X G (c.fact 44 (f := .free "isinstance") rfl),
    z_len := He.free_ok X G (c.fact 45 (f := .free "len") rfl),
    z_list := He.free_ok X G (c.fact 46 (f := .free "list") rfl),
    z_max := He.free_ok X G (c.fact 47 (f := .free "max") rfl),
    z_range := He.free_ok X G (c.fact 48 (f := .free "range") rfl),
    z_sorted := He.free_ok X G (c.fact 49 (f := .free "sorted") rfl),
    z_sum := He.free_ok X G (c.fact 50 (f := .free "sum") rfl),
    z_tuple := He.free_ok X G (c.fact 51 (f := .free "tuple") rfl),
    z_zip := He.free_ok X G (c.fact 52 (f := .free "zip") rfl)
  }, He.glo_ok X G (c.fact 24 (f := .glo "law") rfl), fun s v => ?_⟩
  obtain ⟨oc, od, kV, doc, pm, an, cdv, ct, osl, h1, h2, h3⟩ := F34.ex
  show BindsTo s fd34 _ _
  rw [h1]
  exact .of_eq rfl
end CS
open PySem PySem.W PySem.Calls PyProof.Rows in
set_option maxRecDepth 100000 in
set_option maxHeartbeats 0 in
theorem PySem.Challenge.cw_calledseats_k76_largest_avoided_sets_holds : PySem.Challenge.rw_calledseats_k76_largest_avoided_sets.Holds := by
  w_on; o_law
  refine HandSHeadRun.head_any (r := OpenLaw.row PySem.Challenge.rw_calledseats_k76_largest_avoided_sets) (q := view (OpenLaw.row PySem.Challenge.rw_calledseats_k76_largest_avoided_sets).prog [37]) (H := CS.hk) (ob := CS.ob) (M := 30000) (loose := CS.loose) (d := HandSHeadRun.topDef (OpenLaw.row PySem.Challenge.rw_calledseats_k76_largest_avoided_sets).prog 37) (kwd := []) CS.ob_eq
    (by kernel_rfl) (fun s => by kernel_rfl) CS.runTop (by kernel_rfl) (by kernel_rfl) (by kernel_rfl) (by rfl) (by first | assumption | decide +kernel) (by decide +kernel) ⟨rfl, rfl, rfl, rfl, rfl, by decide +kernel⟩ ?hw ?hc
  case hw => w_witness2
  case hc =>
    refine L2.walk_ofE (l := PySem.Challenge.rw_calledseats_k76_largest_avoided_sets) (n := 63) (k := 8) (x := "_law_script") (CX := L2.CX0) rfl (by decide) (by kernel_rfl) ⟨rfl, by decide, by decide⟩ ?F (fun _ _ _ _ z => z)
    intro w mg fa h Y G hmg0
    obtain ⟨K, KX, c⟩ := Y
    have hmg : mg ("law" : PySem.Str) = some (.ref fa) := by
      have e : (HandSHeadRun.topDef (OpenLaw.row PySem.Challenge.rw_calledseats_k76_largest_avoided_sets).prog 37).name = ("law" : PySem.Str) := by kernel_rfl
      rw [← e]
      exact hmg0
    obtain ⟨T, e1, e2⟩ := CS.tx_of KX G c
    have e := hmg.symm.trans e1
    cases e
    exact ⟨K, T.fd_law, CS.sp_law K, KX, e2, fun H a ns hl _ hS => ⟨a, ns, rfl, hS, hl, fun _ => rfl⟩, fun base _ _ => CS.ok_law T⟩
